import PyProof.Rows.All
import Wide.All
import OpenK.AllK
import Wide.FinOn
import HandS.ForMost
import HandS.WordsExc
import HandS.Exc
import HandS.ExcOwn
import HandS.TryMany
import HandS.ExcInit
import HandS.ExcField
import HandS.Flow
import HandS.Walk
import HandS.Zip
import HandS.Deep
import HandS.TupAny
import HandS.TupMul
import HandS.IsInst
import HandS.Wide
import HandS.SortOrd
import PySem.Challenge.RW_countsandfloors_k49_texts_of_every_kind
set_option Elab.async false
set_option linter.all false
set_option maxRecDepth 100000
set_option maxHeartbeats 0
section
set_option autoImplicit false
/-! Ev0: deep data, what a value denotes, the evaluator's frame. -/
namespace EV
open PySem PySem.Spec PyProof.Rows L2

/-- data of any depth: what the evaluator computes with -/
inductive D where
  | non | bl (b : Bool) | int (i : Int) | str (s : List Nat) | tup (ds : List D) | lst (ds : List D) | fn (f : Nat)

abbrev Sh := Addr → Prop
abbrev St := L2.St

/-- a list of the module -/
def KL (K : PySem.W.Frag) (a : Addr) (xs : List V) : Prop := ∃ (o : Obj) (its : Array Value) (n : Nat), K.lookup a = some o ∧ o.cls = .type "list" ∧ o.dict = none ∧ o.data = .seq its n ∧ its.size ≤ sizeLine ∧ Vals xs its.toList
mutual
inductive Den (K : PySem.W.Frag) (FA : Nat → Option Addr) (S : Sh) (H : Hp) : V → D → Prop
  | non : Den K FA S H .non .non
  | bl (b : Bool) : Den K FA S H (.bl b) (.bl b)
  | int (i : Int) : Den K FA S H (.int i) (.int i)
  | str (s : List Nat) : Den K FA S H (.str ⟨s.toArray⟩) (.str s)
  | tup {a : Addr} {xs : List V} {ds : List D} : SqT K H a xs → DenAll K FA S H xs ds → Den K FA S H (.ref a) (.tup ds)
  | lst {a : Addr} {xs : List V} {ds : List D} : S a ∨ KL K a xs → SqL K H a xs → DenAll K FA S H xs ds → Den K FA S H (.ref a) (.lst ds)
  | fn {a : Addr} {f : Nat} : FA f = some a → Den K FA S H (.ref a) (.fn f)
inductive DenAll (K : PySem.W.Frag) (FA : Nat → Option Addr) (S : Sh) (H : Hp) : List V → List D → Prop
  | nil : DenAll K FA S H [] []
  | cons {v : V} {vs : List V} {d : D} {ds : List D} : Den K FA S H v d → DenAll K FA S H vs ds → DenAll K FA S H (v :: vs) (d :: ds)
end

section
variable {K : PySem.W.Frag} {FA : Nat → Option Addr} {S S' : Sh} {H H' : Hp}

theorem DenAll.length : ∀ {vs : List V} {ds : List D}, DenAll K FA S H vs ds → vs.length = ds.length
  | _, _, .nil => rfl
  | _, _, .cons _ t => by rw [List.length_cons, List.length_cons, DenAll.length t]
theorem DenAll.get : ∀ {vs : List V} {ds : List D} {i : Nat} {d : D}, DenAll K FA S H vs ds → ds[i]? = some d → ∃ v, vs[i]? = some v ∧ Den K FA S H v d
  | _, _, _, _, .nil, e => by simp at e
  | _, _, 0, _, .cons h _, e => by simp at e; subst e; exact ⟨_, rfl, h⟩
  | _, _, i + 1, _, .cons _ t, e => by
    obtain ⟨v, e1, e2⟩ := DenAll.get (i := i) t (by simpa using e)
    exact ⟨v, by simpa using e1, e2⟩
theorem DenAll.getV : ∀ {vs : List V} {ds : List D} {i : Nat} {v : V}, DenAll K FA S H vs ds → vs[i]? = some v → ∃ d, ds[i]? = some d ∧ Den K FA S H v d
  | _, _, _, _, .nil, e => by simp at e
  | _, _, 0, _, .cons h _, e => by simp at e; subst e; exact ⟨_, rfl, h⟩
  | _, _, i + 1, _, .cons _ t, e => by
    obtain ⟨d, e1, e2⟩ := DenAll.getV (i := i) t (by simpa using e)
    exact ⟨d, by simpa using e1, e2⟩
theorem DenAll.append : ∀ {xs ys : List V} {ds es : List D}, DenAll K FA S H xs ds → DenAll K FA S H ys es → DenAll K FA S H (xs ++ ys) (ds ++ es)
  | _, _, _, _, .nil, h => h
  | _, _, _, _, .cons a t, h => .cons a (DenAll.append t h)
theorem DenAll.take : ∀ {xs : List V} {ds : List D} (n : Nat), DenAll K FA S H xs ds → DenAll K FA S H (xs.take n) (ds.take n)
  | _, _, 0, _ => by simp; exact .nil
  | _, _, _ + 1, .nil => .nil
  | _, _, n + 1, .cons a t => .cons a (DenAll.take n t)
theorem DenAll.drop : ∀ {xs : List V} {ds : List D} (n : Nat), DenAll K FA S H xs ds → DenAll K FA S H (xs.drop n) (ds.drop n)
  | _, _, 0, h => by simpa using h
  | _, _, _ + 1, .nil => .nil
  | _, _, n + 1, .cons _ t => DenAll.drop n t
theorem DenAll.set {v : V} {d : D} (h : Den K FA S H v d) : ∀ {xs : List V} {ds : List D} (n : Nat), DenAll K FA S H xs ds → DenAll K FA S H (xs.set n v) (ds.set n d)
  | _, _, _, .nil => .nil
  | _, _, 0, .cons _ t => .cons h t
  | _, _, n + 1, .cons a t => .cons a (DenAll.set h n t)
theorem DenAll.reverse {xs : List V} {ds : List D} (h : DenAll K FA S H xs ds) : DenAll K FA S H xs.reverse ds.reverse := by
  induction xs generalizing ds with
  | nil => cases h; exact .nil
  | cons x xs ih =>
    cases h with
    | cons a t =>
      rw [List.reverse_cons, List.reverse_cons]
      exact (ih t).append (.cons a .nil)
theorem DenAll.rep {v : V} {d : D} (h : Den K FA S H v d) : ∀ n : Nat, DenAll K FA S H (List.replicate n v) (List.replicate n d)
  | 0 => .nil
  | n + 1 => .cons h (DenAll.rep h n)
theorem DenAll.imp {P : V → D → Prop} : ∀ {xs : List V} {ds : List D}, DenAll K FA S H xs ds → (∀ v d, Den K FA S H v d → Den K FA S' H' v d) → DenAll K FA S' H' xs ds
  | _, _, .nil, _ => .nil
  | _, _, .cons a t, f => .cons (f _ _ a) (DenAll.imp (P := P) t f)

/-- from one heap to a later one: what is shared and what is a tuple is kept -/
structure Ext (S : Sh) (H : Hp) (S' : Sh) (H' : Hp) : Prop where
  sub : ∀ b, S b → S' b
  keep : ∀ b o, S b → H b = some o → H' b = some o
  tups : ∀ b xs, H b = some (.tup xs) → H' b = some (.tup xs)
  frzs : ∀ b o u, H b = some (.frz o u) → H' b = some (.frz o u)
  live : ∀ b o, H b = some o → ∃ o', H' b = some o'
  new : ∀ b, S' b → S b ∨ (H b = none ∧ ∃ o, H' b = some o)

theorem Ext.refl (S : Sh) (H : Hp) : Ext S H S H := ⟨fun _ h => h, fun _ _ _ h => h, fun _ _ h => h, fun _ _ _ h => h, fun _ o h => ⟨o, h⟩, fun _ h => .inl h⟩
theorem Ext.trans {S1 S2 S3 : Sh} {H1 H2 H3 : Hp} (a : Ext S1 H1 S2 H2) (b : Ext S2 H2 S3 H3) : Ext S1 H1 S3 H3 where
  sub := fun x h => b.sub x (a.sub x h)
  keep := fun x o h e => b.keep x o (a.sub x h) (a.keep x o h e)
  tups := fun x xs e => b.tups x xs (a.tups x xs e)
  frzs := fun x o u e => b.frzs x o u (a.frzs x o u e)
  live := fun x o e => by
    obtain ⟨o', e'⟩ := a.live x o e
    exact b.live x o' e'
  new := fun x h => by
    rcases b.new x h with h | ⟨h, l⟩
    · rcases a.new x h with h | ⟨h, o, l⟩
      · exact .inl h
      · exact .inr ⟨h, b.live x o l⟩
    · cases q : H1 x with
      | none => exact .inr ⟨rfl, l⟩
      | some o =>
        obtain ⟨o', e'⟩ := a.live x o q
        rw [h] at e'; cases e'
theorem SqT.ext {a : Addr} {xs : List V} (E : Ext S H S' H') (h : SqT K H a xs) : SqT K H' a xs := by
  rcases h with (h | ⟨o, h⟩) | h
  · exact .inl (.inl (E.tups _ _ h))
  · exact .inl (.inr ⟨o, E.frzs _ _ _ h⟩)
  · exact .inr h
theorem SqL.ext {a : Addr} {xs : List V} (E : Ext S H S' H') (s : S a ∨ KL K a xs) (h : SqL K H a xs) : SqL K H' a xs := by
  rcases s with s | s
  case inr => exact .inr s
  rcases h with (h | ⟨o, h⟩) | h
  · exact .inl (.inl (E.keep _ _ s h))
  · exact .inl (.inr ⟨o, E.frzs _ _ _ h⟩)
  · exact .inr h
mutual
theorem Den.ext (E : Ext S H S' H') : ∀ {v : V} {d : D}, Den K FA S H v d → Den K FA S' H' v d
  | _, _, .non => .non
  | _, _, .bl b => .bl b
  | _, _, .int i => .int i
  | _, _, .str s => .str s
  | _, _, .tup h t => .tup (SqT.ext E h) (DenAll.ext E t)
  | _, _, .lst s h t => .lst (s.imp (E.sub _) fun h => h) (SqL.ext E s h) (DenAll.ext E t)
  | _, _, .fn h => .fn h
theorem DenAll.ext (E : Ext S H S' H') : ∀ {vs : List V} {ds : List D}, DenAll K FA S H vs ds → DenAll K FA S' H' vs ds
  | _, _, .nil => .nil
  | _, _, .cons a t => .cons (Den.ext E a) (DenAll.ext E t)
end
mutual
theorem Den.more (hs : ∀ b, S b → S' b) : ∀ {v : V} {d : D}, Den K FA S H v d → Den K FA S' H v d
  | _, _, .non => .non
  | _, _, .bl b => .bl b
  | _, _, .int i => .int i
  | _, _, .str s => .str s
  | _, _, .tup h t => .tup h (DenAll.more hs t)
  | _, _, .lst s h t => .lst (s.imp (hs _) fun h => h) h (DenAll.more hs t)
  | _, _, .fn h => .fn h
theorem DenAll.more (hs : ∀ b, S b → S' b) : ∀ {vs : List V} {ds : List D}, DenAll K FA S H vs ds → DenAll K FA S' H vs ds
  | _, _, .nil => .nil
  | _, _, .cons a t => .cons (Den.more hs a) (DenAll.more hs t)
end
/-- nothing tracked has changed -/
theorem SqT.same {a : Addr} {xs : List V} (E : Same H H') (h : SqT K H a xs) : SqT K H' a xs := by
  rcases h with (h | ⟨o, h⟩) | h
  · exact .inl (.inl (E _ _ h))
  · exact .inl (.inr ⟨o, E _ _ h⟩)
  · exact .inr h
mutual
theorem Den.same (E : Same H H') : ∀ {v : V} {d : D}, Den K FA S H v d → Den K FA S H' v d
  | _, _, .non => .non
  | _, _, .bl b => .bl b
  | _, _, .int i => .int i
  | _, _, .str s => .str s
  | _, _, .tup h t => .tup (SqT.same E h) (DenAll.same E t)
  | _, _, .lst s h t => .lst s (Same.seq E h) (DenAll.same E t)
  | _, _, .fn h => .fn h
theorem DenAll.same (E : Same H H') : ∀ {vs : List V} {ds : List D}, DenAll K FA S H vs ds → DenAll K FA S H' vs ds
  | _, _, .nil => .nil
  | _, _, .cons a t => .cons (Den.same E a) (DenAll.same E t)
end
theorem Ext.of_same (E : Same H H') : Ext S H S H' := ⟨fun _ h => h, fun b o _ h => E b o h, fun b xs h => E b _ h, fun b o u h => E b _ h, fun b o h => ⟨o, E b o h⟩, fun _ h => .inl h⟩
theorem same_upd {p : Addr} {o : HO} (h : H p = none) : Same H (upd H p o) := fun b x e => by
  rw [upd_ne (ne_of_none e h)]
  exact e

/-! ### data without a list: it leans on nothing that may change -/
mutual
def D.flat : D → Bool
  | .lst _ => false
  | .tup ds => D.flatAll ds
  | _ => true
def D.flatAll : List D → Bool
  | [] => true
  | d :: ds => d.flat && D.flatAll ds
end
mutual
theorem Den.flat : ∀ {v : V} {d : D}, d.flat = true → Den K FA S H v d → Den K FA S' H v d
  | _, _, _, .non => .non
  | _, _, _, .bl b => .bl b
  | _, _, _, .int i => .int i
  | _, _, _, .str s => .str s
  | _, _, f, .tup h t => .tup h (DenAll.flat (by simpa [D.flat] using f) t)
  | _, _, f, .lst _ _ _ => by simp [D.flat] at f
  | _, _, _, .fn h => .fn h
theorem DenAll.flat : ∀ {vs : List V} {ds : List D}, D.flatAll ds = true → DenAll K FA S H vs ds → DenAll K FA S' H vs ds
  | _, _, _, .nil => .nil
  | _, _, f, .cons a t => by
    simp only [D.flatAll, Bool.and_eq_true] at f
    exact .cons (Den.flat f.1 a) (DenAll.flat f.2 t)
end
end

/-! ### what a value is, from what it denotes -/
section
variable {K : PySem.W.Frag} {FA : Nat → Option Addr} {S : Sh} {H : Hp} {v : V}
theorem den_non (h : Den K FA S H v .non) : v = .non := by cases h; rfl
theorem den_bl {b : Bool} (h : Den K FA S H v (.bl b)) : v = .bl b := by cases h; rfl
theorem den_int {i : Int} (h : Den K FA S H v (.int i)) : v = .int i := by cases h; rfl
theorem den_str {s : List Nat} (h : Den K FA S H v (.str s)) : v = .str ⟨s.toArray⟩ := by cases h; rfl
theorem den_tup {ds : List D} (h : Den K FA S H v (.tup ds)) : ∃ a xs, v = .ref a ∧ SqT K H a xs ∧ DenAll K FA S H xs ds := by
  cases h with
  | tup h t => exact ⟨_, _, rfl, h, t⟩
theorem den_lst {ds : List D} (h : Den K FA S H v (.lst ds)) : ∃ a xs, v = .ref a ∧ (S a ∨ KL K a xs) ∧ SqL K H a xs ∧ DenAll K FA S H xs ds := by
  cases h with
  | lst s h t => exact ⟨_, _, rfl, s, h, t⟩
theorem den_fn {f : Nat} (h : Den K FA S H v (.fn f)) : ∃ a, v = .ref a ∧ FA f = some a := by
  cases h with
  | fn h => exact ⟨_, rfl, h⟩
theorem denAll_ints {is : List Int} {vs : List V} (h : DenAll K FA S H vs (is.map D.int)) : vs = is.map V.int := by
  induction is generalizing vs with
  | nil => cases h; rfl
  | cons i is ih =>
    cases h with
    | cons a t => rw [den_int a, ih t]; rfl
end

/-! ### the evaluator's state -/
abbrev Env := List (Option D)

/-- what a frame keeps in mind: the heap at its entry, the address of its in-out parameter (slot 0), the slots that own their list -/
structure Fr0 where
  K : PySem.W.Frag
  FA : Nat → Option Addr
  S0 : Sh
  H0 : Hp
  io : Option Addr
  own : List Nat

/-- a list that the slot alone knows -/
def Own (K : PySem.W.Frag) (FA : Nat → Option Addr) (S : Sh) (H : Hp) (v : V) (d : D) : Prop :=
  ∃ a xs ds, v = .ref a ∧ ¬ S a ∧ H a = some (.lst xs) ∧ d = .lst ds ∧ DenAll K FA S H xs ds

structure EnvOk (F : Fr0) (S : Sh) (H : Hp) (σ : St) (ρ : Env) : Prop where
  len : σ.length = ρ.length
  sh : ∀ i d, i ∉ F.own → ρ[i]? = some (some d) → ∃ v, σ[i]? = some (some v) ∧ Den F.K F.FA S H v d
  ow : ∀ i d, i ∈ F.own → ρ[i]? = some (some d) → ∃ v, σ[i]? = some (some v) ∧ Own F.K F.FA S H v d
  apart : ∀ i j a d e, i ∈ F.own → j ∈ F.own → ρ[i]? = some (some d) → ρ[j]? = some (some e) → σ[i]? = some (some (.ref a)) → σ[j]? = some (some (.ref a)) → i = j
  frame : ∀ b o, F.H0 b = some o → F.io ≠ some b → H b = some o
  live : ∀ b, S b → ∃ o, H b = some o
  mine : ∀ i a d, i ∈ F.own → ρ[i]? = some (some d) → σ[i]? = some (some (.ref a)) → F.H0 a = none ∨ F.io = some a
  inout : ∀ a, F.io = some a → 0 ∈ F.own ∧ σ[0]? = some (some (.ref a)) ∧ ∃ d, ρ[0]? = some (some d)
  un : ∀ i, i ∈ F.own → ρ[i]? = some none → σ[i]? = some none
  entry : Ext F.S0 F.H0 S H

/-- what an expression may do: the slots ms' own lists may change -/
structure Stp (S : Sh) (H : Hp) (ms : List Nat) (σ : St) (S' : Sh) (H' : Hp) : Prop where
  ext : Ext S H S' H'
  but : ∀ b o, H b = some o → (∀ j ∈ ms, σ[j]? ≠ some (some (.ref b))) → H' b = some o

theorem Stp.refl (S : Sh) (H : Hp) (ms : List Nat) (σ : St) : Stp S H ms σ S H := ⟨Ext.refl S H, fun _ _ h _ => h⟩
theorem Stp.mono {S S' : Sh} {H H' : Hp} {ms ms' : List Nat} {σ : St} (h : Stp S H ms σ S' H') (hm : ∀ j ∈ ms, j ∈ ms') : Stp S H ms' σ S' H' :=
  ⟨h.ext, fun b o e k => h.but b o e fun j hj => k j (hm j hj)⟩
theorem Stp.trans {S1 S2 S3 : Sh} {H1 H2 H3 : Hp} {ms : List Nat} {σ : St} (a : Stp S1 H1 ms σ S2 H2) (b : Stp S2 H2 ms σ S3 H3) : Stp S1 H1 ms σ S3 H3 :=
  ⟨a.ext.trans b.ext, fun x o e k => b.but x o (a.but x o e k) k⟩
theorem Stp.same {S1 S2 : Sh} {H1 H2 : Hp} {σ : St} (a : Stp S1 H1 [] σ S2 H2) : Same H1 H2 := fun b o e => a.but b o e fun _ h => nomatch h
theorem Stp.of_same {S : Sh} {H H' : Hp} {σ : St} (E : Same H H') : Stp S H [] σ S H' := ⟨Ext.of_same E, fun b o e _ => E b o e⟩
end EV
end
section
set_option autoImplicit false
/-! Ev1: the small language and its evaluator. -/
namespace EV
open PySem PySem.Spec PyProof.Rows L2

mutual
def D.py : D → PyData
  | .non => .none
  | .bl b => .bool b
  | .int i => .int i
  | .str s => .str ⟨s.toArray⟩
  | .tup ds => .tuple (D.pys ds)
  | .lst ds => .list (D.pys ds)
  | .fn _ => .dict []
def D.pys : List D → List PyData
  | [] => []
  | d :: ds => d.py :: D.pys ds
end
def D.good (d : D) : Bool := SeqAt.shaped d.py
def D.eqv (a b : D) : Bool := PyData.eqv a.py b.py
def D.eq? (a b : D) : Option Bool := if a.good && b.good then some (a.eqv b) else none
/-- x in the list | tuple of ds -/
def D.in? (x : D) (ds : List D) : Option Bool := if x.good && (D.lst ds).good then some (ds.any fun y => y.eqv x) else none

def D.ints : List D → Option (List Int)
  | [] => some []
  | .int i :: r => (D.ints r).map (i :: ·)
  | _ => none
def D.bls : List D → Option (List Bool)
  | [] => some []
  | .bl b :: r => (D.bls r).map (b :: ·)
  | _ => none
def D.strs : List D → Option (List (List Nat))
  | [] => some []
  | .str s :: r => (D.strs r).map (s :: ·)
  | _ => none
def D.truth : D → Option Bool
  | .non => some false
  | .bl b => some b
  | .int i => some (i != 0)
  | .tup ds => some (!ds.isEmpty)
  | .lst ds => some (!ds.isEmpty)
  | _ => none

structure Exc where
  cls : Nat
  arg : Option D
inductive CR where
  | ok (d : D) (out : D) | exc (x : Exc) (out : D) | bad
inductive R (α : Type) where
  | ok (a : α) (ρ : Env) | exc (x : Exc) (ρ : Env) | bad
def R.bind {α β : Type} (r : R α) (f : α → Env → R β) : R β :=
  match r with
  | .ok a ρ => f a ρ
  | .exc x ρ => .exc x ρ
  | .bad => .bad
def R.opt {α : Type} (ρ : Env) : Option α → R α
  | some a => .ok a ρ
  | none => .bad

/-! ### operations -/
inductive U where
  | len | tuple | list | sum | all | any | abs | int | str | neg | min | max | isInt | isBool | isStr | isTup | isLst | isLT | isBS | isNone | notNone | rev
  deriving DecidableEq
inductive Cm where
  | eq | ne | lt | le | gt | ge | isin | notin
  deriving DecidableEq
inductive B where
  | add | sub | mul | fdiv | mod | pow | cmp (c : Cm) | idx | split | join | min2 | max2
  deriving DecidableEq

def cut {α : Type} (xs : List α) (lo hi : Option Int) : List α := (xs.drop (HT.sIx xs.length 0 lo)).take (HT.sIx xs.length xs.length hi - HT.sIx xs.length 0 lo)
def numText (i : Int) : List Nat := (Str.ofString (toString i)).cps.toList
def listMin : List Int → Option Int
  | [] => none
  | x :: r => some (r.foldl (fun a b => if b < a then b else a) x)
def listMax : List Int → Option Int
  | [] => none
  | x :: r => some (r.foldl (fun a b => if a < b then b else a) x)

def D.ty : D → Option String
  | .non => some "NoneType"
  | .bl _ => some "bool"
  | .int _ => some "int"
  | .str _ => some "str"
  | .tup _ => some "tuple"
  | .lst _ => some "list"
  | .fn _ => none
def D.isa (d : D) (p : String → Bool) : Option D := d.ty.map fun t => .bl (p t)
def U.ev : U → D → Option D
  | .len, .tup ds => some (.int ds.length)
  | .len, .lst ds => some (.int ds.length)
  | .len, .str s => if s.length ≤ sizeLine then some (.int s.length) else none
  | .tuple, .tup ds => some (.tup ds)
  | .tuple, .lst ds => some (.tup ds)
  | .list, .tup ds => some (.lst ds)
  | .list, .lst ds => some (.lst ds)
  | .sum, .lst ds => (D.ints ds).map fun is => .int is.sum
  | .all, .lst ds => (D.bls ds).map fun bs => .bl (bs.all id)
  | .any, .lst ds => (D.bls ds).map fun bs => .bl (bs.any id)
  | .abs, .int i => some (.int (if i < 0 then -i else i))
  | .int, .int i => some (.int i)
  | .int, .bl b => some (.int (if b then 1 else 0))
  | .int, .str s => if s.length ≤ 640 then (PySem.intText? ⟨s.toArray⟩).map .int else none
  | .str, .int i => if i.natAbs.log2 < 1920 then some (.str (numText i)) else none
  | .neg, .int i => some (.int (-i))
  | .min, .lst ds => (D.ints ds).bind fun is => (listMin is).map .int
  | .max, .lst ds => (D.ints ds).bind fun is => (listMax is).map .int
  | .isInt, d => d.isa fun t => t == "int" || t == "bool"
  | .isBool, d => d.isa fun t => t == "bool"
  | .isStr, d => d.isa fun t => t == "str"
  | .isTup, d => d.isa fun t => t == "tuple"
  | .isLst, d => d.isa fun t => t == "list"
  | .isLT, d => d.isa fun t => t == "list" || t == "tuple"
  | .isBS, d => d.isa fun t => t == "bool" || t == "str"
  | .isNone, d => some (.bl (match d with | .non => true | _ => false))
  | .notNone, d => some (.bl (match d with | .non => false | _ => true))
  | .rev, .lst ds => some (.lst ds.reverse)
  | .rev, .tup ds => some (.tup ds.reverse)
  | _, _ => none

def Cm.ev : Cm → D → D → Option Bool
  | .eq, a, b => D.eq? a b
  | .ne, a, b => (D.eq? a b).map (!·)
  | .lt, .int i, .int j => some (decide (i < j))
  | .le, .int i, .int j => some (decide (i ≤ j))
  | .gt, .int i, .int j => some (decide (j < i))
  | .ge, .int i, .int j => some (decide (j ≤ i))
  | .isin, .str [c], .str z => some (decide (c ∈ z))
  | .notin, .str [c], .str z => some (!decide (c ∈ z))
  | .isin, x, .lst ds => D.in? x ds
  | .isin, x, .tup ds => D.in? x ds
  | .notin, x, .lst ds => (D.in? x ds).map (!·)
  | .notin, x, .tup ds => (D.in? x ds).map (!·)
  | _, _, _ => none
def B.ev : B → D → D → Option D
  | .add, .int i, .int j => some (.int (i + j))
  | .add, .str s, .str t => if s.length + t.length ≤ sizeLine then some (.str (s ++ t)) else none
  | .add, .tup s, .tup t => if s.length + t.length ≤ sizeLine then some (.tup (s ++ t)) else none
  | .add, .lst s, .lst t => if s.length + t.length ≤ sizeLine then some (.lst (s ++ t)) else none
  | .sub, .int i, .int j => some (.int (i - j))
  | .mul, .int i, .int j => if i.natAbs.log2 + j.natAbs.log2 < 1000000 ∨ (-(2 ^ 64) < i ∧ i < 2 ^ 64) ∨ (-(2 ^ 64) < j ∧ j < 2 ^ 64) then some (.int (i * j)) else none
  | .mul, .tup s, .int j => if s ≠ [] ∧ s.length ≤ 1000 ∧ 2 ≤ j ∧ j ≤ 1000 then some (.tup (List.replicate j.toNat s).flatten) else none
  | .fdiv, .int i, .int j => if 0 < j ∧ j.natAbs.log2 < 9000 then some (.int (i / j)) else none
  | .mod, .int i, .int j => if 0 < j then some (.int (i % j)) else none
  | .pow, .int i, .int j => if 0 ≤ j ∧ j ≤ 1000000 ∧ i.natAbs < 2 ^ 64 then some (.int (i ^ j.toNat)) else none
  | .cmp c, a, b => (c.ev a b).map .bl
  | .idx, .lst ds, .int i => atI ds i
  | .idx, .tup ds, .int i => atI ds i
  | .idx, .str s, .int i => if s.length ≤ sizeLine then (atI s i).map fun c => .str [c] else none
  | .split, .str s, .str p => if p ≠ [] ∧ (p.all (· < 256)) = true ∧ s.length + 2 ≤ sizeLine then some (.lst ((TL.spl p 0 [] s).map .str)) else none
  | .join, .str p, .lst ds => (D.strs ds).bind fun ss => if (ss.map (·.length)).sum + ss.length * p.length ≤ 16777216 then some (.str (TL.joinL p ss)) else none
  | .min2, .int i, .int j => some (.int (if j < i then j else i))
  | .max2, .int i, .int j => some (.int (if j > i then j else i))
  | _, _, _ => none
/-- what the first operand must be ahead of the second one -/
def B.pre : B → D → Bool
  | .split, .str _ => true
  | .split, _ => false
  | .join, .str _ => true
  | .join, _ => false
  | _, _ => true
def D.slice : D → Option Int → Option Int → Option D
  | .lst ds, lo, hi => some (.lst (cut ds lo hi))
  | .tup ds, lo, hi => some (.tup (cut ds lo hi))
  | .str s, lo, hi => if s.length ≤ sizeLine then some (.str (cut s lo hi)) else none
  | _, _, _ => none
def D.toInt : D → Option Int
  | .int i => some i
  | _ => none
/-- what a for walks -/
def D.items : D → Option (List D)
  | .lst ds => some ds
  | .tup ds => some ds
  | .str s => some (s.map fun c => .str [c])
  | _ => none
def enumD : Nat → List D → List D
  | _, [] => []
  | k, d :: ds => .tup [.int k, d] :: enumD (k + 1) ds
def zipD : List D → List D → List D
  | a :: as, b :: bs => .tup [a, b] :: zipD as bs
  | _, _ => []
def D.lst? : D → Option (List D)
  | .lst ds => some ds
  | _ => none
def zipDD : D → D → Option (List D)
  | .lst xs, .lst ys => some (zipD xs ys)
  | .tup xs, .tup ys => some (zipD xs ys)
  | _, _ => none
def rangeD (lo : Int) : Nat → List D
  | 0 => []
  | n + 1 => .int lo :: rangeD (lo + 1) n

/-! ### the language -/
mutual
inductive Tg where
  | nm (i : Nat) | tp (ts : Tgs)
inductive Tgs where
  | nil | cons (t : Tg) (ts : Tgs)
end
mutual
inductive E where
  | lit (d : D)
  | var (i : Nat)
  | glob (x : Str) (d : D)
  | fn (f : Nat)
  | un (u : U) (a : E)
  | bin (b : B) (a c : E)
  | slL (a l : E) | slH (a h : E) | slLH (a l h : E)
  | tup (es : Es) | lst (es : Es)
  | and_ (a b : E) | or_ (a b : E) | not_ (a : E) | ite (c a b : E)
  | chain (o p : Cm) (a b c : E)
  | call (fl fr : Bool) (f : Nat) (es : Es)
  | callIo (f : Nat) (i : Nat) (es : Es)
  | callT (f : Nat) (a : E) (es : Es)
  | callv (g : E) (es : Es)
  | pop (i : Nat) (e : E)
  | comp (vs : List (Str × Nat)) (tg : Tg) (it : It) (elt : E)
  | compIf (vs : List (Str × Nat)) (tg : Tg) (it : It) (c elt : E)
inductive Es where
  | nil | cons (e : E) (es : Es)
inductive It where
  | seq (e : E) | enum (e : E) | zip (a b : E) | range1 (a : E) | range2 (a b : E)
end
mutual
inductive S where
  | asg (t : Tg) (e : E)
  | asgO (i : Nat) (e : E)
  | asg2 (oi oj : Bool) (i j : Nat) (a b : E)
  | aug (i : Nat) (e : E)
  | store (i : Nat) (ix e : E)
  | app (i : Nat) (e : E)
  | expr (e : E)
  | ret (e : E) | retN
  | if_ (c : E) (a b : Ss)
  | for_ (t : Tg) (it : It) (b : Ss)
  | while_ (c : E) (b : Ss)
  | never
  | raise1 (cls : Nat) (e : E)
  | try_ (b : Ss) (cls : Nat) (nm : Option Nat) (h : Hd)
inductive Ss where
  | nil | cons (s : S) (ss : Ss)
/-- an except suite: a slot set to a text, or to a pair of a text and the error's field; a return -/
inductive Hd where
  | setT (i : Nat) (s : List Nat)
  | setP (i : Nat) (s : List Nat)
  | retT (s : List Nat)
  | retB (b : Bool)
end

/-! ### targets -/
mutual
def Tg.bind : Tg → D → Env → Option Env
  | .nm i, d, ρ => if i < ρ.length then some (ρ.set i (some d)) else none
  | .tp ts, .tup ds, ρ => Tgs.bind ts ds ρ
  | .tp _, _, _ => none
def Tgs.bind : Tgs → List D → Env → Option Env
  | .nil, [], ρ => some ρ
  | .cons t ts, d :: ds, ρ => (Tg.bind t d ρ).bind fun ρ1 => Tgs.bind ts ds ρ1
  | _, _, _ => none
end
def wipeE (ρ : Env) : List Nat → Env
  | [] => ρ
  | i :: r => (wipeE ρ r).set i none
/-- the slots vs as they were in ρ0 -/
def backE (ρ0 ρ : Env) : List Nat → Env
  | [] => ρ
  | i :: r => (backE ρ0 ρ r).set i (ρ0.getD i none)
def compGo (f : D → Env → R (Option D)) : List D → Env → R (List D)
  | [], ρ => .ok [] ρ
  | x :: xs, ρ => (f x ρ).bind fun o ρ1 => (compGo f xs ρ1).bind fun r ρ2 => .ok (o.toList ++ r) ρ2

/-- nothing is let out -/
def R.calm {α : Type} : R α → R α
  | .ok a ρ => .ok a ρ
  | _ => .bad
/-- one turn of a comprehension -/
def compF (tg : Tg) (fc : Env → R Bool) (fe : Env → R D) (vs : List Nat) : D → Env → R (Option D) := fun x ρ1 =>
  R.calm ((R.opt ρ1 (tg.bind x ρ1)).bind fun ρ2 _ => (fc ρ2).bind fun t ρ3 => if t then (fe ρ3).bind fun d ρ4 => .ok (some d) (wipeE ρ4 vs) else .ok none (wipeE ρ3 vs))

inductive Fl where
  | nx | ret (d : D) | bk | ct
def forGo (f : D → Env → R Fl) : List D → Env → R Fl
  | [], ρ => .ok .nx ρ
  | x :: xs, ρ => (f x ρ).bind fun o ρ1 => match o with
    | .nx => forGo f xs ρ1
    | .ct => forGo f xs ρ1
    | .bk => .ok .nx ρ1
    | .ret d => .ok (.ret d) ρ1
def whileGo (c : Env → R Bool) (f : Env → R Fl) : Nat → Env → R Fl
  | 0, _ => .bad
  | n + 1, ρ => (c ρ).bind fun b ρ1 => if b then (f ρ1).bind fun o ρ2 => match o with
      | .nx => whileGo c f n ρ2
      | .ct => whileGo c f n ρ2
      | .bk => .ok .nx ρ2
      | .ret d => .ok (.ret d) ρ2
    else .ok .nx ρ1

section
variable (call : Nat → List D → CR) (wf : Nat)
def ofCR (ρ : Env) (i : Option Nat) : CR → R D
  | .ok d o => .ok d (match i with | some i => ρ.set i (some o) | none => ρ)
  | .exc x o => .exc x (match i with | some i => ρ.set i (some o) | none => ρ)
  | .bad => .bad
/-- nothing of what was handed over may come back, but data without lists -/
def flatR (fl : Bool) (r : R D) : R D :=
  if fl then
    match r with
    | .ok d ρ => if d.flat then .ok d ρ else .bad
    | .exc x ρ => if (x.arg.getD .non).flat then .exc x ρ else .bad
    | .bad => .bad
  else r
mutual
def evE : E → Env → R D
  | .lit d, ρ => .ok d ρ
  | .var i, ρ => R.opt ρ (ρ.getD i none)
  | .glob _ d, ρ => .ok d ρ
  | .fn f, ρ => .ok (.fn f) ρ
  | .un u a, ρ => (evE a ρ).bind fun d ρ => R.opt ρ (u.ev d)
  | .bin b a c, ρ => (evE a ρ).bind fun d ρ => if b.pre d then (evE c ρ).bind fun e ρ => R.opt ρ (b.ev d e) else .bad
  | .slL a l, ρ => (evE a ρ).bind fun d ρ => (evE l ρ).bind fun e ρ => R.opt ρ (e.toInt.bind fun i => d.slice (some i) none)
  | .slH a h, ρ => (evE a ρ).bind fun d ρ => (evE h ρ).bind fun e ρ => R.opt ρ (e.toInt.bind fun i => d.slice none (some i))
  | .slLH a l h, ρ => (evE a ρ).bind fun d ρ => (evE l ρ).bind fun e ρ => match e.toInt with
      | some i => (evE h ρ).bind fun e' ρ => R.opt ρ (e'.toInt.bind fun j => d.slice (some i) (some j))
      | none => .bad
  | .tup es, ρ => (evEs es ρ).bind fun ds ρ => if ds.length ≤ 1000 then .ok (.tup ds) ρ else .bad
  | .lst es, ρ => (evEs es ρ).bind fun ds ρ => if ds.length ≤ 1000 then .ok (.lst ds) ρ else .bad
  | .and_ a b, ρ => (evE a ρ).bind fun d ρ => match d.truth with | some true => evE b ρ | some false => .ok d ρ | none => .bad
  | .or_ a b, ρ => (evE a ρ).bind fun d ρ => match d.truth with | some true => .ok d ρ | some false => evE b ρ | none => .bad
  | .not_ a, ρ => (evE a ρ).bind fun d ρ => R.opt ρ (d.truth.map fun b => .bl (!b))
  | .ite c a b, ρ => (evE c ρ).bind fun d ρ => match d.truth with | some true => evE a ρ | some false => evE b ρ | none => .bad
  | .chain o p a b c, ρ => (evE a ρ).bind fun x ρ => (evE b ρ).bind fun y ρ => match o.ev x y with
      | some true => (evE c ρ).bind fun z ρ => R.opt ρ ((p.ev y z).map .bl)
      | some false => .ok (.bl false) ρ
      | none => .bad
  | .call fl _ f es, ρ => (evEs es ρ).bind fun ds ρ => flatR fl (ofCR ρ none (call f ds))
  | .callIo f i es, ρ => match ρ.getD i none with
      | some _ => (evEs es ρ).bind fun ds ρ => match ρ.getD i none with | some d => ofCR ρ (some i) (call f (d :: ds)) | none => .bad
      | none => .bad
  | .callT f a es, ρ => (evE a ρ).bind fun d ρ => (evEs es ρ).bind fun ds ρ => match d with | .lst _ => ofCR ρ none (call f (d :: ds)) | _ => .bad
  | .callv g es, ρ => (evE g ρ).bind fun d ρ => match d with | .fn f => (evEs es ρ).bind fun ds ρ => ofCR ρ none (call f ds) | _ => .bad
  | .pop i e, ρ => match ρ.getD i none with
    | some _ => (evE e ρ).bind fun d ρ => match ρ.getD i none, d with
      | some (.lst ds), .int k => match ixN ds.length k with
          | some j => match ds[j]? with | some x => if ds.length ≤ sizeLine then .ok x (ρ.set i (some (.lst (ds.eraseIdx j)))) else .bad | none => .bad
          | none => .bad
      | _, _ => .bad
    | none => .bad
  | .comp vs tg it elt, ρ => (evIt it ρ).bind fun items ρ0 => if items.length ≤ sizeLine then
      (compGo (compF tg (fun ρ => .ok true ρ) (evE elt) (vs.map (·.2))) items (wipeE ρ0 (vs.map (·.2)))).bind fun ds ρ4 => .ok (.lst ds) (backE ρ0 ρ4 (vs.map (·.2))) else .bad
  | .compIf vs tg it c elt, ρ => (evIt it ρ).bind fun items ρ0 => if items.length ≤ sizeLine then
      (compGo (compF tg (fun ρ => (evE c ρ).bind fun d ρ => R.opt ρ d.truth) (evE elt) (vs.map (·.2))) items (wipeE ρ0 (vs.map (·.2)))).bind fun ds ρ4 => .ok (.lst ds) (backE ρ0 ρ4 (vs.map (·.2))) else .bad
def evEs : Es → Env → R (List D)
  | .nil, ρ => .ok [] ρ
  | .cons e es, ρ => (evE e ρ).bind fun d ρ => (evEs es ρ).bind fun ds ρ => .ok (d :: ds) ρ
def evIt : It → Env → R (List D)
  | .seq e, ρ => (evE e ρ).bind fun d ρ => R.opt ρ d.items
  | .enum e, ρ => (evE e ρ).bind fun d ρ => R.opt ρ (d.lst?.map (enumD 0))
  | .zip a b, ρ => (evE a ρ).bind fun d ρ => (evE b ρ).bind fun e ρ => R.opt ρ (zipDD d e)
  | .range1 a, ρ => (evE a ρ).bind fun d ρ => R.opt ρ (d.toInt.bind fun i => if -(2 ^ 62) ≤ i ∧ i < 2 ^ 62 then some (rangeD 0 i.toNat) else none)
  | .range2 a b, ρ => (evE a ρ).bind fun d ρ => (evE b ρ).bind fun e ρ => R.opt ρ (d.toInt.bind fun i => e.toInt.bind fun j => if -(2 ^ 62) ≤ i ∧ i < 2 ^ 62 ∧ -(2 ^ 62) ≤ j ∧ j < 2 ^ 62 then some (rangeD i (j - i).toNat) else none)
end
def evC (e : E) (ρ : Env) : R Bool := (evE call e ρ).bind fun d ρ => R.opt ρ d.truth
def okO (o : Bool) : D → Bool
  | .lst _ => true
  | _ => !o
def Hd.run (x : Exc) (ρ : Env) (nm : Option Nat) : Hd → R Fl
  | .setT i s => .ok .nx (ρ.set i (some (.str s)))
  | .setP i s => match x.arg, nm with | some d, some j => if i < ρ.length ∧ j < ρ.length ∧ i ≠ j then .ok .nx (ρ.set i (some (.tup [.str s, d]))) else .bad | _, _ => .bad
  | .retT s => .ok (.ret (.str s)) ρ
  | .retB b => .ok (.ret (.bl b)) ρ
def dropNm (nm : Option Nat) (ρ : Env) : Env := match nm with | some i => ρ.set i none | none => ρ
mutual
def evS : S → Env → R Fl
  | .asg t e, ρ => (evE call e ρ).bind fun d ρ => (R.opt ρ (t.bind d ρ)).bind fun ρ1 _ => .ok .nx ρ1
  | .asgO i e, ρ => (evE call e ρ).bind fun d ρ => if okO true d && decide (i < ρ.length) then .ok .nx (ρ.set i (some d)) else .bad
  | .asg2 oi oj i j a b, ρ => (evE call a ρ).bind fun d ρ => (evE call b ρ).bind fun e ρ => if okO oi d && okO oj e && decide (i < ρ.length) && decide (j < ρ.length) then .ok .nx ((ρ.set i (some d)).set j (some e)) else .bad
  | .aug i e, ρ => match ρ.getD i none with
      | some (.int k) => (evE call e ρ).bind fun d ρ => match d with | .int j => .ok .nx (ρ.set i (some (.int (k + j)))) | _ => .bad
      | _ => .bad
  | .store i ix e, ρ => (evE call e ρ).bind fun d ρ => match ρ.getD i none with
      | some _ => (evE call ix ρ).bind fun k ρ => match ρ.getD i none, k with
        | some (.lst ds), .int k => match ixN ds.length k with
          | some j => .ok .nx (ρ.set i (some (.lst (ds.set j d))))
          | none => .bad
        | _, _ => .bad
      | none => .bad
  | .app i e, ρ => match ρ.getD i none with
      | some _ => (evE call e ρ).bind fun d ρ => match ρ.getD i none with
        | some (.lst ds) => if ds.length < sizeLine then .ok .nx (ρ.set i (some (.lst (ds ++ [d])))) else .bad
        | _ => .bad
      | none => .bad
  | .expr e, ρ => (evE call e ρ).bind fun _ ρ => .ok .nx ρ
  | .ret e, ρ => (evE call e ρ).bind fun d ρ => .ok (.ret d) ρ
  | .retN, ρ => .ok (.ret .non) ρ
  | .if_ c a b, ρ => (evC call c ρ).bind fun t ρ => if t then evSs a ρ else evSs b ρ
  | .for_ t it b, ρ => (evIt call it ρ).bind fun items ρ => forGo (fun x ρ => (R.opt ρ (t.bind x ρ)).bind fun ρ1 _ => evSs b ρ1) items ρ
  | .while_ c b, ρ => whileGo (evC call c) (evSs b) wf ρ
  | .never, _ => .bad
  | .raise1 cls e, ρ => (evE call e ρ).bind fun d ρ => .exc ⟨cls, some d⟩ ρ
  | .try_ b cls nm h, ρ => match evSs b ρ with
      | .exc x ρ1 => if x.cls = cls then (h.run x ρ1 nm).bind fun f ρ2 => .ok f (dropNm nm ρ2) else .exc x ρ1
      | r => r
def evSs : Ss → Env → R Fl
  | .nil, ρ => .ok .nx ρ
  | .cons s ss, ρ => (evS s ρ).bind fun f ρ1 => match f with
    | .nx => evSs ss ρ1
    | f => .ok f ρ1
end
end

/-! ### a program -/
structure DefI where
  name : Str
  N : List Str
  np : Nat
  io : Bool
  fr : Bool
  own : List Nat
  body : Ss
def startE (N : List Str) (ds : List D) : Env := ds.map some ++ List.replicate (N.length - ds.length) none
def runDef (call : Nat → List D → CR) (wf : Nat) (di : DefI) (ds : List D) : CR :=
  if ds.length = di.np then
    match evSs call wf di.body (startE di.N ds) with
    | .ok (.ret d) ρ => .ok d ((ρ.getD 0 none).getD .non)
    | .ok .nx ρ => .ok .non ((ρ.getD 0 none).getD .non)
    | .exc x ρ => .exc x ((ρ.getD 0 none).getD .non)
    | _ => .bad
  else .bad
def callD (defs : List DefI) (wf : Nat) : Nat → Nat → List D → CR
  | 0, _, _ => .bad
  | k + 1, f, ds => match defs[f]? with
    | some di => runDef (callD defs wf k) wf di ds
    | none => .bad
end EV
end
section
set_option autoImplicit false
/-! Ev2: results, the frame's steps, the readings. -/
namespace EV
open PySem PySem.Spec PyProof.Rows L2

/-! ### results -/
def KR {α : Type} (r : R α) (ok : α → Env → Prop) (ex : Exc → Env → Prop) : Prop :=
  match r with
  | .ok a ρ => ok a ρ
  | .exc x ρ => ex x ρ
  | .bad => False
theorem KR.bind {α β : Type} {r : R α} {f : α → Env → R β} {ok : β → Env → Prop} {ex : Exc → Env → Prop} (h : KR (r.bind f) ok ex) : KR r (fun a ρ => KR (f a ρ) ok ex) ex := by
  cases r <;> exact h
theorem KR.of_bind {α β : Type} {r : R α} {f : α → Env → R β} {ok : β → Env → Prop} {ex : Exc → Env → Prop} (h : KR r (fun a ρ => KR (f a ρ) ok ex) ex) : KR (r.bind f) ok ex := by
  cases r <;> exact h
theorem KR.opt {α : Type} {ρ : Env} {o : Option α} {ok : α → Env → Prop} {ex : Exc → Env → Prop} (h : KR (R.opt ρ o) ok ex) : ∃ a, o = some a ∧ ok a ρ := by
  cases o with
  | none => exact h.elim
  | some a => exact ⟨a, rfl, h⟩
theorem KR.imp {α : Type} {r : R α} {ok ok' : α → Env → Prop} {ex ex' : Exc → Env → Prop} (h : KR r ok ex) (f : ∀ a ρ, ok a ρ → ok' a ρ) (g : ∀ x ρ, ex x ρ → ex' x ρ) : KR r ok' ex' := by
  cases r with
  | ok a ρ => exact f a ρ h
  | exc x ρ => exact g x ρ h
  | bad => exact h

/-! ### the frame's steps -/
section
variable {F : Fr0} {S S' S1 S2 : Sh} {H H' H1 H2 : Hp} {σ : St} {ρ ρ' ρ1 ρ2 : Env} {ms ms' : List Nat}

theorem Own.step {K : PySem.W.Frag} {FA : Nat → Option Addr} {v : V} {d : D} (x : Ext S H S' H') (same : ∀ a, v = .ref a → ∀ o, H a = some o → H' a = some o) (h : Own K FA S H v d) : Own K FA S' H' v d := by
  obtain ⟨a, xs, ds, rfl, ns, ha, rfl, hd⟩ := h
  refine ⟨a, xs, ds, rfl, fun h => ?_, same a rfl _ ha, rfl, hd.ext x⟩
  rcases x.new a h with h | ⟨h, _⟩
  · exact ns h
  · rw [ha] at h; cases h

theorem EnvOk.step (E : EnvOk F S H σ ρ) (x : Ext S H S' H') (same : Same H H') : EnvOk F S' H' σ ρ where
  len := E.len
  sh := fun i d hi e => by
    obtain ⟨v, h1, h2⟩ := E.sh i d hi e
    exact ⟨v, h1, h2.ext x⟩
  ow := fun i d hi e => by
    obtain ⟨v, h1, h2⟩ := E.ow i d hi e
    exact ⟨v, h1, h2.step x fun a _ o h => same a o h⟩
  apart := E.apart
  frame := fun b o h n => same b o (E.frame b o h n)
  live := fun b h => by
    rcases x.new b h with h | ⟨_, h⟩
    · obtain ⟨o, e⟩ := E.live b h
      exact ⟨o, same b o e⟩
    · exact h
  mine := E.mine
  inout := E.inout
  un := E.un
  entry := E.entry.trans x

/-- an owned slot's address -/
theorem EnvOk.addr (E : EnvOk F S H σ ρ) {i : Nat} {d : D} (hi : i ∈ F.own) (e : ρ[i]? = some (some d)) : ∃ a xs ds, σ[i]? = some (some (.ref a)) ∧ ¬ S a ∧ H a = some (.lst xs) ∧ d = .lst ds ∧ DenAll F.K F.FA S H xs ds := by
  obtain ⟨v, h1, a, xs, ds, rfl, h2, h3, h4, h5⟩ := E.ow i d hi e
  exact ⟨a, xs, ds, h1, h2, h3, h4, h5⟩

structure Nxt (F : Fr0) (S : Sh) (H : Hp) (ms : List Nat) (σ : St) (ρ : Env) (S' : Sh) (H' : Hp) (ρ' : Env) : Prop where
  stp : Stp S H ms σ S' H'
  ok : EnvOk F S' H' σ ρ'
  dom : ∀ (i : Nat) (d : D), ρ'[i]? = some (some d) → ∃ e : D, ρ[i]? = some (some e)

theorem Nxt.refl (E : EnvOk F S H σ ρ) : Nxt F S H ms σ ρ S H ρ := ⟨Stp.refl _ _ _ _, E, fun _ d h => ⟨d, h⟩⟩
theorem Nxt.trans (a : Nxt F S H ms σ ρ S1 H1 ρ1) (b : Nxt F S1 H1 ms σ ρ1 S2 H2 ρ2) : Nxt F S H ms σ ρ S2 H2 ρ2 :=
  ⟨a.stp.trans b.stp, b.ok, fun i d h => by
    obtain ⟨e, h⟩ := b.dom i d h
    exact a.dom i e h⟩
theorem Nxt.mono (a : Nxt F S H ms σ ρ S1 H1 ρ1) (h : ∀ j ∈ ms, j ∈ ms') : Nxt F S H ms' σ ρ S1 H1 ρ1 := ⟨a.stp.mono h, a.ok, a.dom⟩
theorem Nxt.nil (a : Nxt F S H [] σ ρ S1 H1 ρ1) : Nxt F S H ms σ ρ S1 H1 ρ1 := a.mono fun _ h => nomatch h
theorem Nxt.of_same (E : EnvOk F S H σ ρ) (x : Ext S H S' H') (same : Same H H') : Nxt F S H ms σ ρ S' H' ρ :=
  ⟨⟨x, fun b o e _ => same b o e⟩, E.step x same, fun _ d h => ⟨d, h⟩⟩
/-- a new object -/
theorem Nxt.alloc (E : EnvOk F S H σ ρ) {p : Addr} {o : HO} (hp : H p = none) : Nxt F S H ms σ ρ S (upd H p o) ρ :=
  Nxt.of_same E (Ext.of_same (same_upd hp)) (same_upd hp)
/-- a new list is from now on known to others -/
theorem Nxt.share (N : Nxt F S H ms σ ρ S' H' ρ') (E : EnvOk F S H σ ρ) {p : Addr} {o : HO} (hp : H p = none) (hl : H' p = some o) :
    Nxt F S H ms σ ρ (fun b => S' b ∨ b = p) H' ρ' := by
  have x := N.stp.ext
  have ns : ¬ S p := fun h => by
    obtain ⟨o, e⟩ := E.live p h
    rw [hp] at e; cases e
  refine ⟨⟨⟨fun b h => .inl (x.sub b h), x.keep, x.tups, x.frzs, x.live, fun b h => ?_⟩, N.stp.but⟩, ⟨N.ok.len, fun i d hi e => ?_, fun i d hi e => ?_, N.ok.apart, N.ok.frame, fun b h => ?_, N.ok.mine, N.ok.inout, N.ok.un, ?_⟩, N.dom⟩
  · rcases h with h | rfl
    · exact x.new b h
    · exact .inr ⟨hp, _, hl⟩
  · obtain ⟨v, h1, h2⟩ := N.ok.sh i d hi e
    exact ⟨v, h1, h2.more fun _ h => .inl h⟩
  · obtain ⟨v, h1, a, xs, ds, rfl, h2, h3, h4, h5⟩ := N.ok.ow i d hi e
    refine ⟨_, h1, a, xs, ds, rfl, fun h => ?_, h3, h4, h5.more fun _ h => .inl h⟩
    rcases h with h | rfl
    · exact h2 h
    · obtain ⟨e0, h0⟩ := N.dom i d e
      obtain ⟨a0, _, _, g1, _, g3, _⟩ := E.addr hi h0
      rw [h1] at g1; cases g1
      rw [hp] at g3; cases g3
  · rcases h with h | rfl
    · exact N.ok.live b h
    · exact ⟨_, hl⟩
  · have y := N.ok.entry
    refine ⟨fun b h => .inl (y.sub b h), y.keep, y.tups, y.frzs, y.live, fun b h => ?_⟩
    rcases h with h | rfl
    · exact y.new b h
    · refine .inr ⟨?_, _, hl⟩
      cases q : F.H0 b with
      | none => rfl
      | some o =>
        obtain ⟨o', e⟩ := E.entry.live b o q
        rw [hp] at e; cases e
end

/-! ### what a value denotes, some owned lists among it -/
def Flg (S : Sh) (fl : List Nat) (σ : St) : Sh := fun b => S b ∨ ∃ j ∈ fl, σ[j]? = some (some (.ref b))
theorem Flg.nil {S : Sh} {σ : St} : Flg S [] σ = S := by
  funext b
  apply propext
  exact ⟨fun h => h.elim (fun h => h) (fun ⟨_, h, _⟩ => nomatch h), fun h => .inl h⟩
theorem Flg.mono {S : Sh} {σ : St} {fl fl' : List Nat} (h : ∀ j ∈ fl, j ∈ fl') : ∀ b, Flg S fl σ b → Flg S fl' σ b := fun b hb =>
  hb.elim .inl fun ⟨j, hj, e⟩ => .inr ⟨j, h j hj, e⟩

/-- what an exception bears -/
def ExcDen (K : PySem.W.Frag) (FA CA : Nat → Option Addr) (cls : List (Str × Option Str)) (S : Sh) (H : Hp) (x : Exc) (c : Value) (dd : Option Addr) : Prop :=
  ∃ C nm fld, CA x.cls = some C ∧ c = .ref C ∧ cls[x.cls]? = some (nm, fld) ∧
    ((fld = none ∧ x.arg = none ∧ dd = none) ∨ ∃ f d a v, fld = some f ∧ x.arg = some d ∧ dd = some a ∧ H a = some (.xd [(f, v)]) ∧ Den K FA S H v d)

/-! ### the readings -/
/-- of one frame: the evaluator's parts and the wish -/
structure Rd0 where
  F : Fr0
  CA : Nat → Option Addr
  cls : List (Str × Option Str)
  call : Nat → List D → CR
  W : WX
def Rd0.ex (R0 : Rd0) (ms : List Nat) (S : Sh) (H : Hp) (σ : St) (ρ : Env) : Exc → Env → Prop := fun x ρ' =>
  ∀ c dd S' H', Nxt R0.F S H ms σ ρ S' H' ρ' → ExcDen R0.F.K R0.F.FA R0.CA R0.cls S' H' x c dd → R0.W c dd σ H'
/-- the reading of what evaluates to data: got tells what the value is -/
def tG (R0 : Rd0) (ms : List Nat) (f : Env → R D) (got : Hp → Sh → Hp → St → V → D → Prop) : TE := fun σ H Q =>
  ∃ S ρ, EnvOk R0.F S H σ ρ ∧ KR (f ρ) (fun d ρ' => ∀ v S' H', Nxt R0.F S H ms σ ρ S' H' ρ' → got H S' H' σ v d → Q v H') (R0.ex ms S H σ ρ)
/-- .. data that is shared -/
def gSt (F : Fr0) : Hp → Sh → Hp → St → V → D → Prop := fun _ S H _ v d => Den F.K F.FA S H v d
/-- .. data with owned lists of the slots fl among it -/
def gFl (F : Fr0) (fl : List Nat) : Hp → Sh → Hp → St → V → D → Prop := fun _ S H σ v d => Den F.K F.FA (Flg S fl σ) H v d
/-- .. shared data, or the slot's own list -/
def gW (F : Fr0) : Hp → Sh → Hp → St → V → D → Prop := fun _ S H _ v d => Den F.K F.FA S H v d ∨ Own F.K F.FA S H v d
/-- .. a new list, or other data -/
def gNew (F : Fr0) : Hp → Sh → Hp → St → V → D → Prop := fun H0 S H _ v d => (Own F.K F.FA S H v d ∧ ∀ a, v = .ref a → H0 a = none) ∨ ((∀ ds, d ≠ .lst ds) ∧ Den F.K F.FA S H v d)
/-- a test -/
def tCv (R0 : Rd0) (ms : List Nat) (f : Env → R Bool) : TT := fun σ H Q =>
  ∃ S ρ, EnvOk R0.F S H σ ρ ∧ KR (f ρ) (fun b ρ' => ∀ S' H', Nxt R0.F S H ms σ ρ S' H' ρ' → Q b H') (R0.ex ms S H σ ρ)
/-- an argument list -/
def tGs (R0 : Rd0) (ms : List Nat) (f : Env → R (List D)) (fl : List Nat) : TA := fun σ H Q =>
  ∃ S ρ, EnvOk R0.F S H σ ρ ∧ KR (f ρ) (fun ds ρ' => ∀ vs S' H', Nxt R0.F S H ms σ ρ S' H' ρ' → DenAll R0.F.K R0.F.FA (Flg S' fl σ) H' vs ds → Q vs H') (R0.ex ms S H σ ρ)

theorem _root_.L2.PE.evImp {X : Cx} {e : Expr} {t t' : TE} (h : PE X e t) (f : ∀ σ H Q, t' σ H Q → t σ H Q) : PE X e t' := ⟨fun pins s σ H Q I q => h.run pins s σ H Q I (f σ H Q q)⟩
theorem _root_.L2.PT.evImp {X : Cx} {e : Expr} {t t' : TT} (h : PT X e t) (f : ∀ σ H Q, t' σ H Q → t σ H Q) : PT X e t' := ⟨fun pins s σ H Q I q => h.run pins s σ H Q I (f σ H Q q)⟩
theorem _root_.L2.PA.evImp {X : Cx} {e : List Expr} {t t' : TA} (h : PA X e t) (f : ∀ σ H Q, t' σ H Q → t σ H Q) : PA X e t' := ⟨fun pos pins s σ H Q I q => h.run pos pins s σ H Q I (f σ H Q q)⟩
theorem _root_.L2.PS.evImp {X : Cx} {e : Stmt} {t t' : TS} (h : PS X e t) (f : ∀ D σ H, t' D σ H → t D σ H) : PS X e t' := ⟨fun pins s σ H D I q => h.run pins s σ H D I (f D σ H q)⟩
theorem _root_.L2.PSs.evImp {X : Cx} {e : List Stmt} {t t' : TS} (h : PSs X e t) (f : ∀ D σ H, t' D σ H → t D σ H) : PSs X e t' := ⟨fun pins s σ H D I q => h.run pins s σ H D I (f D σ H q)⟩

section
variable {R0 : Rd0} {ms ms' : List Nat} {f : Env → R D} {σ : St} {H : Hp} {Q : VK}
theorem Rd0.ex.back {S S1 : Sh} {H1 : Hp} {ρ ρ1 : Env} (N : Nxt R0.F S H ms σ ρ S1 H1 ρ1) {x : Exc} {ρ' : Env} (h : R0.ex ms S H σ ρ x ρ') : R0.ex ms S1 H1 σ ρ1 x ρ' := fun c dd S' H' N' => h c dd S' H' (N.trans N')
theorem Rd0.ex.less {S : Sh} {ρ : Env} (hm : ∀ j ∈ ms', j ∈ ms) {x : Exc} {ρ' : Env} (h : R0.ex ms S H σ ρ x ρ') : R0.ex ms' S H σ ρ x ρ' := fun c dd S' H' N' => h c dd S' H' (N'.mono hm)
/-- a new list, shared -/
theorem gNew_st (h : tG R0 ms f (gSt R0.F) σ H Q) : tG R0 ms f (gNew R0.F) σ H Q := by
  obtain ⟨S, ρ, E, h⟩ := h
  refine ⟨S, ρ, E, h.imp (fun d ρ' h v S' H' N g => ?_) fun _ _ h => h⟩
  rcases g with ⟨⟨a, xs, ds, rfl, ns, ha, rfl, hd⟩, fr⟩ | ⟨_, g⟩
  · exact h _ _ H' (N.share E (fr a rfl) ha) (.lst (.inl (.inr rfl)) (.inl (.inl ha)) (hd.more fun _ h => .inl h))
  · exact h v S' H' N g
theorem gSt_fl {fl : List Nat} (h : tG R0 ms f (gFl R0.F fl) σ H Q) : tG R0 ms f (gSt R0.F) σ H Q := by
  obtain ⟨S, ρ, E, h⟩ := h
  exact ⟨S, ρ, E, h.imp (fun d ρ' h v S' H' N g => h v S' H' N (g.more fun _ h => .inl h)) fun _ _ h => h⟩
theorem gSt_w (h : tG R0 ms f (gW R0.F) σ H Q) : tG R0 ms f (gSt R0.F) σ H Q := by
  obtain ⟨S, ρ, E, h⟩ := h
  exact ⟨S, ρ, E, h.imp (fun d ρ' h v S' H' N g => h v S' H' N (.inl g)) fun _ _ h => h⟩
end
end EV
end
section
set_option autoImplicit false
/-! Ev3: the operations by values. -/
namespace EV
open PySem PySem.Spec PyProof.Rows L2

/-- the operation's answer: a new list, or other data -/
def gotR (K : PySem.W.Frag) (FA : Nat → Option Addr) (fresh : Bool) (H : Hp) (S' : Sh) (H' : Hp) (v : V) (r : D) : Prop :=
  if fresh then (Own K FA S' H' v r ∧ ∀ a, v = .ref a → H a = none) ∨ ((∀ ds, r ≠ .lst ds) ∧ Den K FA S' H' v r) else Den K FA S' H' v r
def Live (S : Sh) (H : Hp) : Prop := ∀ b, S b → ∃ o, H b = some o
def WDen (K : PySem.W.Frag) (FA : Nat → Option Addr) (S : Sh) (H : Hp) (v : V) (d : D) : Prop := Den K FA S H v d ∨ Own K FA S H v d
/-- .. with all that may follow -/
def Ends1 (K : PySem.W.Frag) (FA : Nat → Option Addr) (fresh : Bool) (S : Sh) (H : Hp) (r : D) (Q : VK) : Prop :=
  ∀ v S' H', Ext S H S' H' → Same H H' → gotR K FA fresh H S' H' v r → Q v H'

section
variable {K : PySem.W.Frag} {FA : Nat → Option Addr} {S : Sh} {H : Hp} {v : V} {d : D} {Q : VK}
theorem WDen.lst {ds : List D} (h : WDen K FA S H v (.lst ds)) : ∃ a xs, v = .ref a ∧ SqL K H a xs ∧ DenAll K FA S H xs ds := by
  rcases h with h | ⟨a, xs, es, rfl, _, ha, e, hd⟩
  · obtain ⟨a, xs, rfl, _, h1, h2⟩ := den_lst h
    exact ⟨a, xs, rfl, h1, h2⟩
  · cases e
    exact ⟨a, xs, rfl, .inl (.inl ha), hd⟩
theorem WDen.den (h : WDen K FA S H v d) (n : ∀ ds, d ≠ .lst ds) : Den K FA S H v d := by
  rcases h with h | ⟨a, xs, es, rfl, _, ha, e, hd⟩
  · exact h
  · exact absurd e (n es)
theorem WDen.tup {ds : List D} (h : WDen K FA S H v (.tup ds)) : ∃ a xs, v = .ref a ∧ SqT K H a xs ∧ DenAll K FA S H xs ds := den_tup (h.den fun _ e => nomatch e)
theorem WDen.int {i : Int} (h : WDen K FA S H v (.int i)) : v = .int i := den_int (h.den fun _ e => nomatch e)
theorem WDen.bl {b : Bool} (h : WDen K FA S H v (.bl b)) : v = .bl b := den_bl (h.den fun _ e => nomatch e)
theorem WDen.non (h : WDen K FA S H v .non) : v = .non := den_non (h.den fun _ e => nomatch e)
theorem WDen.str {s : List Nat} (h : WDen K FA S H v (.str s)) : v = .str ⟨s.toArray⟩ := den_str (h.den fun _ e => nomatch e)
theorem WDen.fn {f : Nat} (h : WDen K FA S H v (.fn f)) : ∃ a, v = .ref a ∧ FA f = some a := den_fn (h.den fun _ e => nomatch e)
/-- the whole as data that no list of ours bounds -/
theorem WDen.any (h : WDen K FA S H v d) : Den K FA (fun _ => True) H v d := by
  rcases h with h | ⟨a, xs, es, rfl, _, ha, rfl, hd⟩
  · exact h.more fun _ _ => True.intro
  · exact .lst (.inl True.intro) (.inl (.inl ha)) (hd.more fun _ _ => True.intro)

/-! ### ends -/
theorem e_den {fresh : Bool} {r : D} (q : Ends1 K FA fresh S H r Q) (n : fresh = true → ∀ ds, r ≠ .lst ds) (h : Den K FA S H v r) : Q v H := by
  refine q v S H (Ext.refl S H) (Same.refl H) ?_
  unfold gotR
  cases fresh with
  | true => exact .inr ⟨n rfl, h⟩
  | false => exact h
theorem e_int {fresh : Bool} {i : Int} (q : Ends1 K FA fresh S H (.int i) Q) : Q (.int i) H := e_den q (fun _ _ e => nomatch e) (.int i)
theorem e_bl {fresh : Bool} {b : Bool} (q : Ends1 K FA fresh S H (.bl b) Q) : Q (.bl b) H := e_den q (fun _ _ e => nomatch e) (.bl b)
theorem e_str {fresh : Bool} {s : List Nat} (q : Ends1 K FA fresh S H (.str s) Q) : Q (.str ⟨s.toArray⟩) H := e_den q (fun _ _ e => nomatch e) (.str s)
theorem e_tup {fresh : Bool} {ds : List D} {xs : List V} {p : Addr} (q : Ends1 K FA fresh S H (.tup ds) Q) (h : DenAll K FA S H xs ds) (hp : H p = none) : Q (.ref p) (upd H p (.tup xs)) := by
  refine q (.ref p) S _ (Ext.of_same (same_upd hp)) (same_upd hp) ?_
  have g : Den K FA S (upd H p (.tup xs)) (.ref p) (.tup ds) := .tup (SqT.of upd_same) (h.same (same_upd hp))
  unfold gotR
  cases fresh with
  | true => exact .inr ⟨(fun _ e => nomatch e), g⟩
  | false => exact g
theorem e_lst {ds : List D} {xs : List V} {p : Addr} (l : Live S H) (q : Ends1 K FA true S H (.lst ds) Q) (h : DenAll K FA S H xs ds) (hp : H p = none) : Q (.ref p) (upd H p (.lst xs)) := by
  refine q (.ref p) S _ (Ext.of_same (same_upd hp)) (same_upd hp) ?_
  refine .inl ⟨⟨p, xs, ds, rfl, fun hs => ?_, upd_same, rfl, h.same (same_upd hp)⟩, fun a e => ?_⟩
  · obtain ⟨o, e⟩ := l p hs
    rw [hp] at e; cases e
  · cases e; exact hp
end

/-! ### one operand -/
def U.fresh : U → Bool
  | .list => true
  | .rev => true
  | _ => false
def RU (K : PySem.W.Frag) (FA : Nat → Option Addr) (u : U) : V → Hp → VK → Prop := fun v H Q =>
  ∃ S d r, Live S H ∧ WDen K FA S H v d ∧ u.ev d = some r ∧ Ends1 K FA u.fresh S H r Q
def RU1 (K : PySem.W.Frag) (FA : Nat → Option Addr) (u : U) : List V → Hp → VK → Prop := fun vs H Q => ∃ v, vs = [v] ∧ RU K FA u v H Q

theorem ints_map {K : PySem.W.Frag} {FA : Nat → Option Addr} {S : Sh} {H : Hp} : ∀ {ds : List D} {is : List Int} {xs : List V}, D.ints ds = some is → DenAll K FA S H xs ds → xs = is.map V.int := by
  intro ds
  induction ds with
  | nil =>
    intro is xs e h
    cases h
    cases (show some [] = some is from e)
    rfl
  | cons d ds ih =>
    intro is xs e h
    cases h with
    | cons a t =>
      cases d with
      | int i =>
        obtain ⟨js, e1, e2⟩ := Option.map_eq_some_iff.mp (show (D.ints ds).map (i :: ·) = some is from e)
        subst e2
        rw [den_int a, ih e1 t, List.map_cons]
      | _ => cases (show (none : Option (List Int)) = some is from e)
theorem bls_map {K : PySem.W.Frag} {FA : Nat → Option Addr} {S : Sh} {H : Hp} : ∀ {ds : List D} {is : List Bool} {xs : List V}, D.bls ds = some is → DenAll K FA S H xs ds → xs = is.map V.bl := by
  intro ds
  induction ds with
  | nil =>
    intro is xs e h
    cases h
    cases (show some [] = some is from e)
    rfl
  | cons d ds ih =>
    intro is xs e h
    cases h with
    | cons a t =>
      cases d with
      | bl i =>
        obtain ⟨js, e1, e2⟩ := Option.map_eq_some_iff.mp (show (D.bls ds).map (i :: ·) = some is from e)
        subst e2
        rw [den_bl a, ih e1 t, List.map_cons]
      | _ => cases (show (none : Option (List Bool)) = some is from e)
theorem strs_map {K : PySem.W.Frag} {FA : Nat → Option Addr} {S : Sh} {H : Hp} : ∀ {ds : List D} {is : List (List Nat)} {xs : List V}, D.strs ds = some is → DenAll K FA S H xs ds → xs = (is.map fun s => (⟨s.toArray⟩ : Str)).map V.str := by
  intro ds
  induction ds with
  | nil =>
    intro is xs e h
    cases h
    cases (show some [] = some is from e)
    rfl
  | cons d ds ih =>
    intro is xs e h
    cases h with
    | cons a t =>
      cases d with
      | str i =>
        obtain ⟨js, e1, e2⟩ := Option.map_eq_some_iff.mp (show (D.strs ds).map (i :: ·) = some is from e)
        subst e2
        rw [den_str a, ih e1 t, List.map_cons, List.map_cons]
      | _ => cases (show (none : Option (List (List Nat))) = some is from e)
theorem opt_map {α β : Type} {o : Option α} {f : α → β} {r : β} (h : o.map f = some r) : ∃ a, o = some a ∧ r = f a := by
  obtain ⟨a, e1, e2⟩ := Option.map_eq_some_iff.mp h
  exact ⟨a, e1, e2.symm⟩
theorem opt_bind {α β : Type} {o : Option α} {f : α → Option β} {r : β} (h : o.bind f = some r) : ∃ a, o = some a ∧ f a = some r := Option.bind_eq_some_iff.mp h
theorem ite_some {α : Type} {c : Prop} [Decidable c] {a r : α} (h : (if c then some a else none) = some r) : c ∧ r = a := by
  by_cases hc : c
  · rw [if_pos hc] at h
    exact ⟨hc, (Option.some.inj h).symm⟩
  · rw [if_neg hc] at h
    cases h

theorem foldMin : ∀ (r : List Int) (x m : Int), m ∈ x :: r → (∀ y, y ∈ x :: r → m ≤ y) → r.foldl (fun a b => if b < a then b else a) x = m
  | [], x, m, h, _ => by
    have : m = x := by simpa using h
    exact this.symm
  | y :: r, x, m, h, k => by
    rw [List.foldl_cons]
    have hx := k x (List.mem_cons_self ..)
    have hy := k y (List.mem_cons_of_mem _ (List.mem_cons_self ..))
    refine foldMin r _ m ?_ fun z hz => ?_
    · by_cases c : y < x
      · rw [if_pos c]
        rcases List.mem_cons.mp h with e | h
        · omega
        · exact h
      · rw [if_neg c]
        rcases List.mem_cons.mp h with e | h
        · exact List.mem_cons.mpr (.inl e)
        · rcases List.mem_cons.mp h with e | h
          · exact List.mem_cons.mpr (.inl (by omega))
          · exact List.mem_cons_of_mem _ h
    · rcases List.mem_cons.mp hz with e | hz
      · rw [e]
        split <;> omega
      · exact k z (List.mem_cons_of_mem _ (List.mem_cons_of_mem _ hz))
theorem foldMax : ∀ (r : List Int) (x m : Int), m ∈ x :: r → (∀ y, y ∈ x :: r → y ≤ m) → r.foldl (fun a b => if a < b then b else a) x = m
  | [], x, m, h, _ => by
    have : m = x := by simpa using h
    exact this.symm
  | y :: r, x, m, h, k => by
    rw [List.foldl_cons]
    have hx := k x (List.mem_cons_self ..)
    have hy := k y (List.mem_cons_of_mem _ (List.mem_cons_self ..))
    refine foldMax r _ m ?_ fun z hz => ?_
    · by_cases c : x < y
      · rw [if_pos c]
        rcases List.mem_cons.mp h with e | h
        · omega
        · exact h
      · rw [if_neg c]
        rcases List.mem_cons.mp h with e | h
        · exact List.mem_cons.mpr (.inl e)
        · rcases List.mem_cons.mp h with e | h
          · exact List.mem_cons.mpr (.inl (by omega))
          · exact List.mem_cons_of_mem _ h
    · rcases List.mem_cons.mp hz with e | hz
      · rw [e]
        split <;> omega
      · exact k z (List.mem_cons_of_mem _ (List.mem_cons_of_mem _ hz))

section
variable {X : Cx} {FA : Nat → Option Addr}
theorem CallR.imp {f : Value} {r r' : List V → Hp → VK → Prop} (h : CallR X f r) (g : ∀ xs H Q, r' xs H Q → r xs H Q) : CallR X f r' := fun pins s σ H xs us Q I rv q => h pins s σ H xs us Q I rv (g xs H Q q)
theorem OpR.imp {f : Value → Value → Sem Value} {r r' : R2} (h : OpR X f r) (g : ∀ x y H Q, r' x y H Q → r x y H Q) : OpR X f r' := fun pins s σ H x y v u Q I rx ry q => h pins s σ H x y v u Q I rx ry (g x y H Q q)
theorem UnR.imp {f : Value → Sem Value} {r r' : V → Hp → VK → Prop} (h : UnR X f r) (g : ∀ x H Q, r' x H Q → r x H Q) : UnR X f r' := fun pins s σ H x v Q I rx q => h pins s σ H x v Q I rx (g x H Q q)
theorem none_some {α : Type} {r : α} {P : Prop} (h : (none : Option α) = some r) : P := nomatch h

theorem u_len : CallR X (.builtin "len") (RU1 X.K FA .len) := by
  refine CallR.imp call_len fun xs H Q h => ?_
  obtain ⟨v, rfl, S, d, r, l, hd, e, q⟩ := h
  cases d with
  | tup ds =>
    obtain ⟨a, ys, rfl, h1, h2⟩ := hd.tup
    cases (show some (D.int ds.length) = some r from e)
    exact ⟨_, ds.length, rfl, .inr ⟨ys, h1, h2.length.symm⟩, e_int q⟩
  | lst ds =>
    obtain ⟨a, ys, rfl, h1, h2⟩ := hd.lst
    cases (show some (D.int ds.length) = some r from e)
    exact ⟨_, ds.length, rfl, .inl ⟨ys, h1, h2.length.symm⟩, e_int q⟩
  | str s =>
    rw [hd.str]
    obtain ⟨hz, rfl⟩ := ite_some (show (if s.length ≤ sizeLine then some (D.int s.length) else none) = some r from e)
    exact ⟨_, s.length, rfl, ⟨hz, rfl⟩, e_int q⟩
  | _ => exact none_some e
theorem u_tuple : CallR X (.type "tuple") (RU1 X.K FA .tuple) := by
  refine CallR.imp call_tuple_of fun xs H Q h => ?_
  obtain ⟨v, rfl, S, d, r, l, hd, e, q⟩ := h
  cases d with
  | tup ds =>
    have hd' := hd.den fun _ e => nomatch e
    obtain ⟨a, ys, rfl, h1, h2⟩ := hd.tup
    cases (show some (D.tup ds) = some r from e)
    exact ⟨a, ys, rfl, .inr ⟨h1, e_den q (fun z => nomatch z) hd'⟩⟩
  | lst ds =>
    obtain ⟨a, ys, rfl, h1, h2⟩ := hd.lst
    cases (show some (D.tup ds) = some r from e)
    exact ⟨a, ys, rfl, .inl ⟨h1, fun p hp => e_tup q h2 hp⟩⟩
  | _ => exact none_some e
theorem u_list : CallR X (.type "list") (RU1 X.K FA .list) := by
  refine CallR.imp call_list_of fun xs H Q h => ?_
  obtain ⟨v, rfl, S, d, r, l, hd, e, q⟩ := h
  cases d with
  | tup ds =>
    obtain ⟨a, ys, rfl, h1, h2⟩ := hd.tup
    cases (show some (D.lst ds) = some r from e)
    exact ⟨a, ys, rfl, .inr h1, fun p hp => e_lst l q h2 hp⟩
  | lst ds =>
    obtain ⟨a, ys, rfl, h1, h2⟩ := hd.lst
    cases (show some (D.lst ds) = some r from e)
    exact ⟨a, ys, rfl, .inl h1, fun p hp => e_lst l q h2 hp⟩
  | _ => exact none_some e
theorem u_sum (hc : X.calm = true) : CallR X (.builtin "sum") (RU1 X.K FA .sum) := by
  refine CallR.imp (cr_sum hc) fun xs H Q h => ?_
  obtain ⟨v, rfl, S, d, r, l, hd, e, q⟩ := h
  cases d with
  | lst ds =>
    obtain ⟨a, ys, rfl, h1, h2⟩ := hd.lst
    obtain ⟨is, e1, rfl⟩ := opt_map (show (D.ints ds).map (fun is => D.int is.sum) = some r from e)
    rw [ints_map e1 h2] at h1
    exact ⟨a, is, rfl, h1, e_int q⟩
  | _ => exact none_some e
theorem u_all (hc : X.calm = true) : CallR X (.builtin "all") (RU1 X.K FA .all) := by
  refine CallR.imp (cr_all hc) fun xs H Q h => ?_
  obtain ⟨v, rfl, S, d, r, l, hd, e, q⟩ := h
  cases d with
  | lst ds =>
    obtain ⟨a, ys, rfl, h1, h2⟩ := hd.lst
    obtain ⟨is, e1, rfl⟩ := opt_map (show (D.bls ds).map (fun is => D.bl (is.all id)) = some r from e)
    rw [bls_map e1 h2] at h1
    exact ⟨a, is, rfl, h1, e_bl q⟩
  | _ => exact none_some e
theorem u_any (hc : X.calm = true) : CallR X (.builtin "any") (RU1 X.K FA .any) := by
  refine CallR.imp (cr_any hc) fun xs H Q h => ?_
  obtain ⟨v, rfl, S, d, r, l, hd, e, q⟩ := h
  cases d with
  | lst ds =>
    obtain ⟨a, ys, rfl, h1, h2⟩ := hd.lst
    obtain ⟨is, e1, rfl⟩ := opt_map (show (D.bls ds).map (fun is => D.bl (is.any id)) = some r from e)
    rw [bls_map e1 h2] at h1
    exact ⟨a, is, rfl, h1, e_bl q⟩
  | _ => exact none_some e
theorem u_min (hc : X.calm = true) : CallR X (.builtin "min") (RU1 X.K FA .min) := by
  refine CallR.imp (cr_min hc) fun xs H Q h => ?_
  obtain ⟨v, rfl, S, d, r, l, hd, e, q⟩ := h
  cases d with
  | lst ds =>
    obtain ⟨a, ys, rfl, h1, h2⟩ := hd.lst
    obtain ⟨is, e1, e2⟩ := opt_bind (show (D.ints ds).bind (fun is => (listMin is).map D.int) = some r from e)
    obtain ⟨m, e3, rfl⟩ := opt_map e2
    rw [ints_map e1 h2] at h1
    cases is with
    | nil => exact none_some e3
    | cons x is =>
      cases (show some (is.foldl (fun a b => if b < a then b else a) x) = some m from e3)
      refine ⟨a, x :: is, rfl, h1, Nat.succ_pos _, fun m h3 h4 => ?_⟩
      have z := e_int q
      rw [foldMin is x m h3 h4] at z
      exact z
  | _ => exact none_some e
theorem u_max (hc : X.calm = true) : CallR X (.builtin "max") (RU1 X.K FA .max) := by
  refine CallR.imp (cr_max hc) fun xs H Q h => ?_
  obtain ⟨v, rfl, S, d, r, l, hd, e, q⟩ := h
  cases d with
  | lst ds =>
    obtain ⟨a, ys, rfl, h1, h2⟩ := hd.lst
    obtain ⟨is, e1, e2⟩ := opt_bind (show (D.ints ds).bind (fun is => (listMax is).map D.int) = some r from e)
    obtain ⟨m, e3, rfl⟩ := opt_map e2
    rw [ints_map e1 h2] at h1
    cases is with
    | nil => exact none_some e3
    | cons x is =>
      cases (show some (is.foldl (fun a b => if a < b then b else a) x) = some m from e3)
      refine ⟨a, x :: is, rfl, h1, Nat.succ_pos _, fun m h3 h4 => ?_⟩
      have z := e_int q
      rw [foldMax is x m h3 h4] at z
      exact z
  | _ => exact none_some e
theorem u_abs : CallR X (.builtin "abs") (RU1 X.K FA .abs) := by
  refine CallR.imp call_abs fun xs H Q h => ?_
  obtain ⟨v, rfl, S, d, r, l, hd, e, q⟩ := h
  cases d with
  | int i =>
    rw [hd.int]
    cases (show some (D.int (if i < 0 then -i else i)) = some r from e)
    exact ⟨i, rfl, e_int q⟩
  | _ => exact none_some e
theorem u_int : CallR X (.type "int") (RU1 X.K FA .int) := by
  refine CallR.imp (CallR.or call_int1 call_int_str) fun xs H Q h => ?_
  obtain ⟨v, rfl, S, d, r, l, hd, e, q⟩ := h
  cases d with
  | int i =>
    rw [hd.int]
    cases (show some (D.int i) = some r from e)
    exact .inl (.inl ⟨i, rfl, e_int q⟩)
  | bl b =>
    rw [hd.bl]
    cases (show some (D.int (if b then 1 else 0)) = some r from e)
    exact .inl (.inr ⟨b, rfl, e_int q⟩)
  | str s =>
    rw [hd.str]
    have e' : (if s.length ≤ 640 then (PySem.intText? ⟨s.toArray⟩).map D.int else none) = some r := e
    by_cases c : s.length ≤ 640
    · rw [if_pos c] at e'
      obtain ⟨n, e1, rfl⟩ := opt_map e'
      exact .inr ⟨⟨s.toArray⟩, n, rfl, e1, c, e_int q⟩
    · rw [if_neg c] at e'
      exact none_some e'
  | _ => exact none_some e
theorem u_str : CallR X (.type "str") (RU1 X.K FA .str) := by
  refine CallR.imp call_str_int fun xs H Q h => ?_
  obtain ⟨v, rfl, S, d, r, l, hd, e, q⟩ := h
  cases d with
  | int i =>
    rw [hd.int]
    obtain ⟨hz, rfl⟩ := ite_some (show (if i.natAbs.log2 < 1920 then some (D.str (numText i)) else none) = some r from e)
    exact ⟨i, rfl, hz, e_str q⟩
  | _ => exact none_some e
theorem u_neg : UnR X (unaryOp .USub) (RU X.K FA .neg) := by
  refine UnR.imp un_neg fun v H Q h => ?_
  obtain ⟨S, d, r, l, hd, e, q⟩ := h
  cases d with
  | int i =>
    rw [hd.int]
    cases (show some (D.int (-i)) = some r from e)
    exact ⟨i, rfl, e_int q⟩
  | _ => exact none_some e
end
end EV
end
section
set_option autoImplicit false
/-! Ev4: the operations of two operands, slices. -/
namespace EV
open PySem PySem.Spec PyProof.Rows L2

def B.fresh : B → Bool
  | .add => true
  | .mul => true
  | .split => true
  | _ => false
def RB (K : PySem.W.Frag) (FA : Nat → Option Addr) (b : B) : R2 := fun x y H Q =>
  ∃ S d e r, Live S H ∧ WDen K FA S H x d ∧ WDen K FA S H y e ∧ b.ev d e = some r ∧ Ends1 K FA b.fresh S H r Q
def RB2 (K : PySem.W.Frag) (FA : Nat → Option Addr) (b : B) : List V → Hp → VK → Prop := fun vs H Q => ∃ x y, vs = [x, y] ∧ RB K FA b x y H Q

/-! ### data as the library has it -/
mutual
theorem den_dp {K : PySem.W.Frag} {FA : Nat → Option Addr} {S : Sh} {H : Hp} : ∀ {v : V} {d : D}, Den K FA S H v d → d.py.canLay0 = true → Dp K H v d.py
  | _, _, .non, _ => by rw [D.py]; exact .non
  | _, _, .bl b, _ => by rw [D.py]; exact .bl b
  | _, _, .int i, _ => by rw [D.py]; exact .int i
  | _, _, .str s, _ => by rw [D.py]; exact .str _
  | _, _, .tup h t, c => by
    rw [D.py] at c ⊢
    exact .tup h (den_dps t (by simpa [PyData.canLay0] using c))
  | _, _, .lst _ h t, c => by
    rw [D.py] at c ⊢
    exact .lst h (den_dps t (by simpa [PyData.canLay0] using c))
  | _, _, .fn h, c => by
    rw [D.py] at c
    simp [PyData.canLay0] at c
theorem den_dps {K : PySem.W.Frag} {FA : Nat → Option Addr} {S : Sh} {H : Hp} : ∀ {vs : List V} {ds : List D}, DenAll K FA S H vs ds → PyData.canLayAll0 (D.pys ds) = true → DpAll K H vs (D.pys ds)
  | _, _, .nil, _ => by rw [D.pys]; exact .nil
  | _, _, .cons a t, c => by
    rw [D.pys] at c ⊢
    simp only [PyData.canLayAll0, Bool.and_eq_true] at c
    exact .cons (den_dp a c.1) (den_dps t c.2)
end
theorem good_lay {d : D} (h : d.good = true) : d.py.canLay0 = true := SeqAt.canLay_of_shaped h
theorem wden_dp {K : PySem.W.Frag} {FA : Nat → Option Addr} {S : Sh} {H : Hp} {v : V} {d : D} (h : WDen K FA S H v d) (g : d.good = true) : Dp K H v d.py := den_dp h.any (good_lay g)
theorem pys_any (x : D) : ∀ ds : List D, ((D.pys ds).any fun z => PyData.eqv z x.py) = ds.any fun y => y.eqv x
  | [] => by rw [D.pys]; rfl
  | d :: ds => by rw [D.pys, List.any_cons, List.any_cons, pys_any x ds]; rfl

section
variable {X : Cx} {FA : Nat → Option Addr}
/-- list + list, whatever their objects -/
theorem op_catL : OpR X (binaryOp .Add) (fun x y H Q => ∃ l b xs zs, x = .ref l ∧ y = .ref b ∧ SqL X.K H l xs ∧ SqL X.K H b zs ∧ xs.length + zs.length ≤ sizeLine ∧ ∀ p, H p = none → Q (.ref p) (upd H p (.lst (xs ++ zs)))) := by
  intro pins s σ H x y v u Q I rx ry h
  obtain ⟨l, b, xs, zs, rfl, rfl, ha, hb, hz, q⟩ := h
  cases rx
  cases ry
  obtain ⟨its, r, ⟨⟨cls, dd, data, sl⟩, n, ho, hc, hdd, hd⟩, _⟩ := I.list ha
  obtain ⟨its2, r2, ⟨⟨cls2, dd2, data2, sl2⟩, n2, ho2, hc2, hdd2, hd2⟩, _⟩ := I.list hb
  simp only at hc hd hc2 hd2
  subst hc hd hc2 hd2
  have e1 := r.length
  have e2 := r2.length
  refine concat_meets ⟨_, ho, rfl⟩ ⟨_, ho2, rfl⟩ noFill_list_add seq_list_add PySem.F.slot_list_add PySem.F.entry_list_add (PySem.F.args_list_add_2 _ _) (list_addW l b its.toArray its2.toArray n n2 dd dd2 sl sl2 (by rw [List.size_toArray, List.size_toArray]; omega)) ⟨ho, ho2, ?_⟩
  have ea : its.toArray ++ its2.toArray = (its ++ its2).toArray := by simp
  rw [ea]
  exact ⟨.ref _, _, I.lnew (t' := s.toks) (r.append r2) (by rw [List.length_append]; omega), rfl, q _ I.fresh⟩

theorem str_app (s t : List Nat) : ((⟨s.toArray⟩ : Str) ++ (⟨t.toArray⟩ : Str)) = ⟨(s ++ t).toArray⟩ := by
  show (⟨s.toArray ++ t.toArray⟩ : Str) = _
  rw [List.append_toArray]

theorem b_add : OpR X (binaryOp .Add) (RB X.K FA .add) := by
  refine OpR.imp (OpR.or op_add (OpR.or op_add_str (OpR.or op_catA op_catL))) fun x y H Q h => ?_
  obtain ⟨S, d, e, r, l, hd, he, ev, q⟩ := h
  cases d with
  | int i =>
    cases e with
    | int j =>
      rw [hd.int, he.int]
      cases (show some (D.int (i + j)) = some r from ev)
      exact .inl ⟨i, j, rfl, rfl, e_int q⟩
    | _ => exact none_some ev
  | str i =>
    cases e with
    | str j =>
      rw [hd.str, he.str]
      obtain ⟨hz, rfl⟩ := ite_some (show (if i.length + j.length ≤ sizeLine then some (D.str (i ++ j)) else none) = some r from ev)
      refine .inr (.inl ⟨_, _, rfl, rfl, hz, ?_⟩)
      rw [str_app]
      exact e_str q
    | _ => exact none_some ev
  | tup i =>
    cases e with
    | tup j =>
      have hd' := hd.den fun _ e => nomatch e
      have he' := he.den fun _ e => nomatch e
      obtain ⟨a, xs, rfl, h1, h2⟩ := hd.tup
      obtain ⟨b, ys, rfl, g1, g2⟩ := he.tup
      obtain ⟨hz, rfl⟩ := ite_some (show (if i.length + j.length ≤ sizeLine then some (D.tup (i ++ j)) else none) = some r from ev)
      refine .inr (.inr (.inl ⟨a, b, xs, ys, rfl, rfl, h1, g1, by rw [h2.length, g2.length]; exact hz, fun e0 => ?_, fun n0 e0 => ?_, fun _ _ p hp => e_tup q (h2.append g2) hp⟩))
      · have : i = [] := by
          have := h2.length
          rw [e0] at this
          exact List.eq_nil_of_length_eq_zero this.symm
        subst this
        exact e_den q (fun _ _ e => nomatch e) he'
      · have : j = [] := by
          have := g2.length
          rw [e0] at this
          exact List.eq_nil_of_length_eq_zero this.symm
        subst this
        rw [List.append_nil] at q
        exact e_den q (fun _ _ e => nomatch e) hd'
    | _ => exact none_some ev
  | lst i =>
    cases e with
    | lst j =>
      obtain ⟨a, xs, rfl, h1, h2⟩ := hd.lst
      obtain ⟨b, ys, rfl, g1, g2⟩ := he.lst
      obtain ⟨hz, rfl⟩ := ite_some (show (if i.length + j.length ≤ sizeLine then some (D.lst (i ++ j)) else none) = some r from ev)
      exact .inr (.inr (.inr ⟨a, b, xs, ys, rfl, rfl, h1, g1, by rw [h2.length, g2.length]; exact hz, fun p hp => e_lst l q (h2.append g2) hp⟩))
    | _ => exact none_some ev
  | _ => cases e <;> exact none_some ev
theorem b_sub : OpR X (binaryOp .Sub) (RB X.K FA .sub) := by
  refine OpR.imp op_sub fun x y H Q h => ?_
  obtain ⟨S, d, e, r, l, hd, he, ev, q⟩ := h
  cases d with
  | int i =>
    cases e with
    | int j =>
      rw [hd.int, he.int]
      cases (show some (D.int (i - j)) = some r from ev)
      exact ⟨i, j, rfl, rfl, e_int q⟩
    | _ => exact none_some ev
  | _ => cases e <;> exact none_some ev
theorem b_mul : OpR X (binaryOp .Mult) (RB X.K FA .mul) := by
  refine OpR.imp (OpR.or op_mulW (OpR.or op_mul op_repT)) fun x y H Q h => ?_
  obtain ⟨S, d, e, r, l, hd, he, ev, q⟩ := h
  cases d with
  | int i =>
    cases e with
    | int j =>
      rw [hd.int, he.int]
      obtain ⟨hz, rfl⟩ := ite_some (show (if i.natAbs.log2 + j.natAbs.log2 < 1000000 ∨ (-(2 ^ 64) < i ∧ i < 2 ^ 64) ∨ (-(2 ^ 64) < j ∧ j < 2 ^ 64) then some (D.int (i * j)) else none) = some r from ev)
      rcases hz with hz | hz
      · exact .inl ⟨i, j, rfl, rfl, hz, e_int q⟩
      · exact .inr (.inl ⟨i, j, rfl, rfl, hz, e_int q⟩)
    | _ => exact none_some ev
  | tup i =>
    cases e with
    | int j =>
      obtain ⟨a, xs, rfl, h1, h2⟩ := hd.tup
      rw [he.int]
      obtain ⟨⟨z1, z2, z3, z4⟩, rfl⟩ := ite_some (show (if i ≠ [] ∧ i.length ≤ 1000 ∧ 2 ≤ j ∧ j ≤ 1000 then some (D.tup (List.replicate j.toNat i).flatten) else none) = some r from ev)
      refine .inr (.inr ⟨a, j, xs, rfl, rfl, h1, fun e0 => z1 ?_, z3, z4, by rw [h2.length]; exact z2, fun p hp => e_tup q ?_ hp⟩)
      · have := h2.length
        rw [e0] at this
        exact List.eq_nil_of_length_eq_zero this.symm
      · have rep : ∀ n : Nat, DenAll X.K FA S H (List.replicate n xs).flatten (List.replicate n i).flatten := by
          intro n
          induction n with
          | zero => exact .nil
          | succ n ih =>
            rw [List.replicate_succ, List.replicate_succ, List.flatten_cons, List.flatten_cons]
            exact h2.append ih
        exact rep _
    | _ => exact none_some ev
  | _ => cases e <;> exact none_some ev
theorem b_fdiv : OpR X (binaryOp .FloorDiv) (RB X.K FA .fdiv) := by
  refine OpR.imp op_fdivW fun x y H Q h => ?_
  obtain ⟨S, d, e, r, l, hd, he, ev, q⟩ := h
  cases d with
  | int i =>
    cases e with
    | int j =>
      rw [hd.int, he.int]
      obtain ⟨hz, rfl⟩ := ite_some (show (if 0 < j ∧ j.natAbs.log2 < 9000 then some (D.int (i / j)) else none) = some r from ev)
      exact ⟨i, j, rfl, rfl, hz, e_int q⟩
    | _ => exact none_some ev
  | _ => cases e <;> exact none_some ev
theorem b_mod : OpR X (binaryOp .Mod) (RB X.K FA .mod) := by
  refine OpR.imp op_mod fun x y H Q h => ?_
  obtain ⟨S, d, e, r, l, hd, he, ev, q⟩ := h
  cases d with
  | int i =>
    cases e with
    | int j =>
      rw [hd.int, he.int]
      obtain ⟨hz, rfl⟩ := ite_some (show (if 0 < j then some (D.int (i % j)) else none) = some r from ev)
      exact ⟨i, j, rfl, rfl, hz, e_int q⟩
    | _ => exact none_some ev
  | _ => cases e <;> exact none_some ev
theorem b_pow : OpR X (binaryOp .Pow) (RB X.K FA .pow) := by
  refine OpR.imp op_pow fun x y H Q h => ?_
  obtain ⟨S, d, e, r, l, hd, he, ev, q⟩ := h
  cases d with
  | int i =>
    cases e with
    | int j =>
      rw [hd.int, he.int]
      obtain ⟨hz, rfl⟩ := ite_some (show (if 0 ≤ j ∧ j ≤ 1000000 ∧ i.natAbs < 2 ^ 64 then some (D.int (i ^ j.toNat)) else none) = some r from ev)
      exact ⟨i, j, rfl, rfl, hz, e_int q⟩
    | _ => exact none_some ev
  | _ => cases e <;> exact none_some ev

/-! ### comparisons -/
def Cm.op : Cm → CmpOp
  | .eq => .Eq
  | .ne => .NotEq
  | .lt => .Lt
  | .le => .LtE
  | .gt => .Gt
  | .ge => .GtE
  | .isin => .In
  | .notin => .NotIn
/-- a comparison: its answer is a bool -/
def RC (K : PySem.W.Frag) (FA : Nat → Option Addr) (c : Cm) : R2 := fun x y H Q =>
  ∃ S d e b, WDen K FA S H x d ∧ WDen K FA S H y e ∧ c.ev d e = some b ∧ Q (.bl b) H
theorem c_int {c : Cm} {f : Value → Value → Sem Value} {g : Int → Int → Bool} (h : OpR X f (rI0 fun i j => .bl (g i j))) (ev : ∀ i j, c.ev (.int i) (.int j) = some (g i j)) (no : ∀ d e, (∀ i j, ¬ (d = .int i ∧ e = .int j)) → c.ev d e = none) :
    OpR X f (RC X.K FA c) := by
  refine OpR.imp h fun x y H Q h => ?_
  obtain ⟨S, d, e, b, hd, he, e0, q⟩ := h
  by_cases hh : ∃ i j, d = .int i ∧ e = .int j
  · obtain ⟨i, j, rfl, rfl⟩ := hh
    rw [hd.int, he.int]
    rw [ev] at e0
    cases e0
    exact ⟨i, j, rfl, rfl, q⟩
  · rw [no d e fun i j z => hh ⟨i, j, z⟩] at e0
    cases e0
theorem no_lt (d e : D) (h : ∀ i j, ¬ (d = .int i ∧ e = .int j)) : Cm.lt.ev d e = none := by
  cases d <;> cases e <;> first | rfl | exact absurd ⟨rfl, rfl⟩ (h _ _)
theorem no_le (d e : D) (h : ∀ i j, ¬ (d = .int i ∧ e = .int j)) : Cm.le.ev d e = none := by
  cases d <;> cases e <;> first | rfl | exact absurd ⟨rfl, rfl⟩ (h _ _)
theorem no_gt (d e : D) (h : ∀ i j, ¬ (d = .int i ∧ e = .int j)) : Cm.gt.ev d e = none := by
  cases d <;> cases e <;> first | rfl | exact absurd ⟨rfl, rfl⟩ (h _ _)
theorem no_ge (d e : D) (h : ∀ i j, ¬ (d = .int i ∧ e = .int j)) : Cm.ge.ev d e = none := by
  cases d <;> cases e <;> first | rfl | exact absurd ⟨rfl, rfl⟩ (h _ _)
theorem eq_some {d e : D} {b : Bool} (h : D.eq? d e = some b) : d.good = true ∧ e.good = true ∧ b = d.eqv e := by
  obtain ⟨h1, h2⟩ := ite_some (show (if (d.good && e.good) = true then some (d.eqv e) else none) = some b from h)
  rw [Bool.and_eq_true] at h1
  exact ⟨h1.1, h1.2, h2⟩
theorem c_eq (hu : X.A.units + 64 < cLine) : OpR X (compareOp .Eq) (RC X.K FA .eq) := by
  refine OpR.imp (op_eqD hu) fun x y H Q h => ?_
  obtain ⟨S, d, e, b, hd, he, e0, q⟩ := h
  obtain ⟨g1, g2, rfl⟩ := eq_some e0
  exact ⟨d.py, e.py, wden_dp hd g1, wden_dp he g2, g1, g2, q⟩
theorem c_ne (hu : X.A.units + 64 < cLine) : OpR X (compareOp .NotEq) (RC X.K FA .ne) := by
  refine OpR.imp (op_neD hu) fun x y H Q h => ?_
  obtain ⟨S, d, e, b, hd, he, e0, q⟩ := h
  obtain ⟨b', e1, rfl⟩ := opt_map (show (D.eq? d e).map (!·) = some b from e0)
  obtain ⟨g1, g2, rfl⟩ := eq_some e1
  exact ⟨d.py, e.py, wden_dp hd g1, wden_dp he g2, g1, g2, q⟩
/-- x in a tuple of data -/
theorem op_inT (hu : X.A.units + 65 < cLine) : OpR X (compareOp .In) (fun x y H Q => ∃ d ds, Dp X.K H x d ∧ Dp X.K H y (.tuple ds) ∧ SeqAt.shaped d = true ∧ SeqAt.shaped (.list ds) = true ∧ Q (.bl (ds.any fun z => PyData.eqv z d)) H) := by
  intro pins s σ H x y v u Q I rx ry h
  obtain ⟨d, ds, hd, he, sd, se, q⟩ := h
  obtain ⟨as, r1⟩ := Dp.reads I d x v hd rx
  obtain ⟨bs, r2⟩ := Dp.reads I (.tuple ds) y u he ry
  exact SeqAt.in_tuple_reads r2 r1 (by simpa [PyData.canLay0] using SeqAt.canLay_of_shaped se) (SeqAt.canLay_of_shaped sd) (room_in_shaped sd hu) ⟨.bl _, H, I, rfl, q⟩
theorem op_notInT (hu : X.A.units + 65 < cLine) : OpR X (compareOp .NotIn) (fun x y H Q => ∃ d ds, Dp X.K H x d ∧ Dp X.K H y (.tuple ds) ∧ SeqAt.shaped d = true ∧ SeqAt.shaped (.list ds) = true ∧ Q (.bl (!ds.any fun z => PyData.eqv z d)) H) := by
  intro pins s σ H x y v u Q I rx ry h
  obtain ⟨d, ds, hd, he, sd, se, q⟩ := h
  obtain ⟨as, r1⟩ := Dp.reads I d x v hd rx
  obtain ⟨bs, r2⟩ := Dp.reads I (.tuple ds) y u he ry
  exact SeqAt.notIn_tuple_reads r2 r1 (by simpa [PyData.canLay0] using SeqAt.canLay_of_shaped se) (SeqAt.canLay_of_shaped sd) (room_in_shaped sd hu) ⟨.bl _, H, I, rfl, q⟩
theorem lst_good {ds : List D} (h : (D.lst ds).good = true) : SeqAt.shaped (.list (D.pys ds)) = true := by
  have h' : SeqAt.shaped (D.lst ds).py = true := h
  rw [D.py] at h'
  exact h'
theorem in_some {x : D} {ds : List D} {b : Bool} (h : D.in? x ds = some b) : x.good = true ∧ (D.lst ds).good = true ∧ b = ds.any fun y => y.eqv x := by
  obtain ⟨h1, h2⟩ := ite_some (show (if (x.good && (D.lst ds).good) = true then some (ds.any fun y => y.eqv x) else none) = some b from h)
  rw [Bool.and_eq_true] at h1
  exact ⟨h1.1, h1.2, h2⟩
theorem dp_list {K : PySem.W.Frag} {S : Sh} {H : Hp} {v : V} {ds : List D} (h : WDen K FA S H v (.lst ds)) (g : (D.lst ds).good = true) : Dp K H v (.list (D.pys ds)) := by
  have z := wden_dp h g
  rw [D.py] at z
  exact z
theorem dp_tuple {K : PySem.W.Frag} {S : Sh} {H : Hp} {v : V} {ds : List D} (h : WDen K FA S H v (.tup ds)) (g : (D.lst ds).good = true) : Dp K H v (.tuple (D.pys ds)) := by
  have c : (D.tup ds).py.canLay0 = true := by
    have z := good_lay g
    simp only [D.py, PyData.canLay0] at z ⊢
    exact z
  have z := den_dp h.any c
  rw [D.py] at z
  exact z
theorem c_in (hu : X.A.units + 65 < cLine) : OpR X (compareOp .In) (RC X.K FA .isin) := by
  refine OpR.imp (OpR.or op_in_sign (OpR.or (op_inD hu) (op_inT hu))) fun x y H Q h => ?_
  obtain ⟨S, d, e, b, hd, he, e0, q⟩ := h
  cases e with
  | str z =>
    cases d with
    | str c =>
      match c, e0 with
      | [c], e0 =>
        rw [hd.str, he.str]
        cases (show some (decide (c ∈ z)) = some b from e0)
        exact .inl ⟨c, ⟨z.toArray⟩, rfl, rfl, q⟩
      | [], e0 => cases (show (none : Option Bool) = some b from e0)
      | _ :: _ :: _, e0 => cases (show (none : Option Bool) = some b from e0)
    | _ => cases (show (none : Option Bool) = some b from e0)
  | lst ds =>
    have e1 : D.in? d ds = some b := by
      cases d with
      | str c => match c, e0 with
        | [c], e0 => exact e0
        | [], e0 => exact e0
        | _ :: _ :: _, e0 => exact e0
      | _ => exact e0
    obtain ⟨g1, g2, rfl⟩ := in_some e1
    refine .inr (.inl ⟨d.py, D.pys ds, wden_dp hd g1, dp_list he g2, g1, lst_good g2, ?_⟩)
    rw [pys_any]
    exact q
  | tup ds =>
    have e1 : D.in? d ds = some b := by
      cases d with
      | str c => match c, e0 with
        | [c], e0 => exact e0
        | [], e0 => exact e0
        | _ :: _ :: _, e0 => exact e0
      | _ => exact e0
    obtain ⟨g1, g2, rfl⟩ := in_some e1
    refine .inr (.inr ⟨d.py, D.pys ds, wden_dp hd g1, dp_tuple he g2, g1, lst_good g2, ?_⟩)
    rw [pys_any]
    exact q
  | _ =>
    exfalso
    cases d with
    | str c => match c, e0 with
      | [c], e0 => cases (show (none : Option Bool) = some b from e0)
      | [], e0 => cases (show (none : Option Bool) = some b from e0)
      | _ :: _ :: _, e0 => cases (show (none : Option Bool) = some b from e0)
    | _ => cases (show (none : Option Bool) = some b from e0)
theorem c_notin (hu : X.A.units + 65 < cLine) : OpR X (compareOp .NotIn) (RC X.K FA .notin) := by
  refine OpR.imp (OpR.or op_notIn_sign (OpR.or (op_notInD hu) (op_notInT hu))) fun x y H Q h => ?_
  obtain ⟨S, d, e, b, hd, he, e0, q⟩ := h
  cases e with
  | str z =>
    cases d with
    | str c =>
      match c, e0 with
      | [c], e0 =>
        rw [hd.str, he.str]
        cases (show some (!decide (c ∈ z)) = some b from e0)
        exact .inl ⟨c, ⟨z.toArray⟩, rfl, rfl, q⟩
      | [], e0 => cases (show (none : Option Bool) = some b from e0)
      | _ :: _ :: _, e0 => cases (show (none : Option Bool) = some b from e0)
    | _ => cases (show (none : Option Bool) = some b from e0)
  | lst ds =>
    have e1 : (D.in? d ds).map (!·) = some b := by
      cases d with
      | str c => match c, e0 with
        | [c], e0 => exact e0
        | [], e0 => exact e0
        | _ :: _ :: _, e0 => exact e0
      | _ => exact e0
    obtain ⟨b', e2, rfl⟩ := opt_map e1
    obtain ⟨g1, g2, rfl⟩ := in_some e2
    refine .inr (.inl ⟨d.py, D.pys ds, wden_dp hd g1, dp_list he g2, g1, lst_good g2, ?_⟩)
    rw [pys_any]
    exact q
  | tup ds =>
    have e1 : (D.in? d ds).map (!·) = some b := by
      cases d with
      | str c => match c, e0 with
        | [c], e0 => exact e0
        | [], e0 => exact e0
        | _ :: _ :: _, e0 => exact e0
      | _ => exact e0
    obtain ⟨b', e2, rfl⟩ := opt_map e1
    obtain ⟨g1, g2, rfl⟩ := in_some e2
    refine .inr (.inr ⟨d.py, D.pys ds, wden_dp hd g1, dp_tuple he g2, g1, lst_good g2, ?_⟩)
    rw [pys_any]
    exact q
  | _ =>
    exfalso
    cases d with
    | str c => match c, e0 with
      | [c], e0 => cases (show (none : Option Bool) = some b from e0)
      | [], e0 => cases (show (none : Option Bool) = some b from e0)
      | _ :: _ :: _, e0 => cases (show (none : Option Bool) = some b from e0)
    | _ => cases (show (none : Option Bool) = some b from e0)
theorem c_all (hu : X.A.units + 65 < cLine) : ∀ c : Cm, OpR X (compareOp c.op) (RC X.K FA c)
  | .eq => c_eq (by omega)
  | .ne => c_ne (by omega)
  | .lt => c_int op_lt (fun _ _ => rfl) no_lt
  | .le => c_int op_le (fun _ _ => rfl) no_le
  | .gt => c_int op_gt (fun _ _ => rfl) no_gt
  | .ge => c_int op_ge (fun _ _ => rfl) no_ge
  | .isin => c_in hu
  | .notin => c_notin hu

/-! ### places, texts -/
theorem denAll_at {K : PySem.W.Frag} {S : Sh} {H : Hp} {xs : List V} {ds : List D} {i : Int} {r : D} (h : DenAll K FA S H xs ds) (e : atI ds i = some r) : ∃ v, atI xs i = some v ∧ Den K FA S H v r := by
  unfold atI at e ⊢
  rw [h.length]
  obtain ⟨j, e1, e2⟩ := opt_bind e
  obtain ⟨v, e3, e4⟩ := h.get e2
  exact ⟨v, by rw [e1]; exact e3, e4⟩
theorem b_idx : IxR X (RB X.K FA .idx) := by
  have imp : ∀ {r r' : R2}, IxR X r → (∀ x y H Q, r' x y H Q → r x y H Q) → IxR X r' := fun h g value slice pins s σ H x y v u Q I rx ry q hs => h value slice pins s σ H x y v u Q I rx ry (g _ _ _ _ q) hs
  refine imp ix_seq fun x y H Q h => ?_
  obtain ⟨S, d, e, r, l, hd, he, ev, q⟩ := h
  cases e with
  | int i =>
    rw [he.int]
    cases d with
    | lst ds =>
      obtain ⟨a, xs, rfl, h1, h2⟩ := hd.lst
      obtain ⟨v, e1, e2⟩ := denAll_at h2 (show atI ds i = some r from ev)
      exact .inl ⟨a, xs, i, v, rfl, rfl, h1, e1, e_den q (fun z => nomatch z) e2⟩
    | tup ds =>
      obtain ⟨a, xs, rfl, h1, h2⟩ := hd.tup
      obtain ⟨v, e1, e2⟩ := denAll_at h2 (show atI ds i = some r from ev)
      exact .inr (.inl ⟨a, xs, i, v, rfl, rfl, h1, e1, e_den q (fun z => nomatch z) e2⟩)
    | str s =>
      rw [hd.str]
      have ev' : (if s.length ≤ sizeLine then (atI s i).map fun c => D.str [c] else none) = some r := ev
      by_cases c : s.length ≤ sizeLine
      · rw [if_pos c] at ev'
        obtain ⟨z, e1, rfl⟩ := opt_map ev'
        exact .inr (.inr ⟨⟨s.toArray⟩, i, z, rfl, rfl, c, e1, e_str q⟩)
      · rw [if_neg c] at ev'
        cases ev'
    | _ => exact none_some ev
  | _ => cases d <;> exact none_some ev
theorem tl_mk (s : List Nat) : TL.tl ⟨s.toArray⟩ = s := rfl
theorem b_split : MtR X "str.split" (fun x ys H Q => ∃ y, ys = [y] ∧ RB X.K FA .split x y H Q) := by
  intro pins s σ H x xs v us Q I rx rs h
  obtain ⟨y, rfl, S, d, e, r, l, hd, he, ev, q⟩ := h
  cases d with
  | str a =>
    cases e with
    | str p =>
      obtain ⟨⟨z1, z2, z3⟩, rfl⟩ := ite_some (show (if p ≠ [] ∧ (p.all (· < 256)) = true ∧ a.length + 2 ≤ sizeLine then some (D.lst ((TL.spl p 0 [] a).map .str)) else none) = some r from ev)
      have hl : ((⟨p.toArray⟩ : Str).length == 0) = false := by
        show (p.length == 0) = false
        cases p with
        | nil => exact absurd rfl z1
        | cons c p => rfl
      refine mt_split pins s σ H x [y] v us Q I rx rs ⟨⟨a.toArray⟩, ⟨p.toArray⟩, hd.str, by rw [he.str], hl, z3, fun q0 hq => ?_⟩
      have hk : (⟨p.toArray⟩ : Str).cps.all (· < 256) = true := by simpa using z2
      have sp := TL.split_spl (⟨a.toArray⟩ : Str) ⟨p.toArray⟩ (by rw [tl_mk]; exact z1) (TL.kind_ok hk)
      rw [tl_mk, tl_mk] at sp
      refine e_lst l q ?_ hq
      rw [← sp]
      generalize Txt.split (⟨a.toArray⟩ : Str) ⟨p.toArray⟩ = ps
      induction ps with
      | nil => exact .nil
      | cons c ps ih =>
        rw [List.map_cons, List.map_cons, List.map_cons]
        refine .cons ?_ ih
        have z : Den X.K FA S H (V.str ⟨(TL.tl c).toArray⟩) (.str (TL.tl c)) := .str _
        rw [TL.mk_tl] at z
        exact z
    | _ => exact none_some ev
  | _ => cases e <;> exact none_some ev
theorem b_join : MtR X "str.join" (fun x ys H Q => ∃ y, ys = [y] ∧ RB X.K FA .join x y H Q) := by
  intro pins s σ H x xs v us Q I rx rs h
  obtain ⟨y, rfl, S, d, e, r, l, hd, he, ev, q⟩ := h
  cases d with
  | str a =>
    cases e with
    | lst ds =>
      obtain ⟨ss, e1, e2⟩ := opt_bind (show (D.strs ds).bind (fun ss => if (ss.map (·.length)).sum + ss.length * a.length ≤ 16777216 then some (D.str (TL.joinL a ss)) else none) = some r from ev)
      obtain ⟨z, rfl⟩ := ite_some e2
      obtain ⟨b, ys, rfl, h1, h2⟩ := he.lst
      rw [strs_map e1 h2] at h1
      refine mt_join pins s σ H x [.ref b] v us Q I rx rs ⟨⟨a.toArray⟩, b, ss.map fun s => (⟨s.toArray⟩ : Str), hd.str, rfl, .inl h1, ?_, ?_⟩
      · have e3 : (ss.map fun s => (⟨s.toArray⟩ : Str)).map (·.length) = ss.map (·.length) := by
          rw [List.map_map]
          rfl
        rw [e3, List.length_map]
        exact z
      · have e4 : Txt.join (⟨a.toArray⟩ : Str) (ss.map fun s => (⟨s.toArray⟩ : Str)) = ⟨(TL.joinL a ss).toArray⟩ := by
          apply TL.ext_tl
          rw [TL.join_eq, TL.tl_join, tl_mk, tl_mk, List.map_map]
          congr 1
          exact (List.map_congr_left fun s _ => tl_mk s).trans (List.map_id _)
        rw [e4]
        exact e_str q
    | _ => exact none_some ev
  | _ => cases e <;> exact none_some ev
theorem b_min2 (hc : X.calm = true) : CallR X (.builtin "min") (RB2 X.K FA .min2) := by
  refine CallR.imp (call_min2 hc) fun xs H Q h => ?_
  obtain ⟨x, y, rfl, S, d, e, r, l, hd, he, ev, q⟩ := h
  cases d with
  | int i =>
    cases e with
    | int j =>
      rw [hd.int, he.int]
      cases (show some (D.int (if j < i then j else i)) = some r from ev)
      exact ⟨i, j, rfl, e_int q⟩
    | _ => exact none_some ev
  | _ => cases e <;> exact none_some ev
theorem b_max2 (hc : X.calm = true) : CallR X (.builtin "max") (RB2 X.K FA .max2) := by
  refine CallR.imp (call_max2 hc) fun xs H Q h => ?_
  obtain ⟨x, y, rfl, S, d, e, r, l, hd, he, ev, q⟩ := h
  cases d with
  | int i =>
    cases e with
    | int j =>
      rw [hd.int, he.int]
      cases (show some (D.int (if j > i then j else i)) = some r from ev)
      exact ⟨i, j, rfl, e_int q⟩
    | _ => exact none_some ev
  | _ => cases e <;> exact none_some ev

/-! ### slices -/
def RS (K : PySem.W.Frag) (FA : Nat → Option Addr) : V → Option Int → Option Int → Hp → VK → Prop := fun x lo hi H Q =>
  ∃ S d r, Live S H ∧ WDen K FA S H x d ∧ d.slice lo hi = some r ∧ Ends1 K FA true S H r Q
theorem denAll_cut {K : PySem.W.Frag} {S : Sh} {H : Hp} {xs : List V} {ds : List D} (h : DenAll K FA S H xs ds) (lo hi : Option Int) : DenAll K FA S H (cutV xs lo hi) (cut ds lo hi) := by
  unfold cutV cut
  rw [h.length]
  exact (h.drop _).take _
theorem s_all : SlR X (RS X.K FA) := by
  have imp : ∀ {r r' : V → Option Int → Option Int → Hp → VK → Prop}, SlR X r → (∀ x lo hi H Q, r' x lo hi H Q → r x lo hi H Q) → SlR X r' := fun h g pins s σ H x v vl vu lo hi sl Q I rx hs pl pu q => h pins s σ H x v vl vu lo hi sl Q I rx hs pl pu (g _ _ _ _ _ q)
  refine imp (SlR.or sl_list (SlR.or sl_tupA sl_str)) fun x lo hi H Q h => ?_
  obtain ⟨S, d, r, l, hd, ev, q⟩ := h
  cases d with
  | lst ds =>
    obtain ⟨a, xs, rfl, h1, h2⟩ := hd.lst
    cases (show some (D.lst (cut ds lo hi)) = some r from ev)
    exact .inl ⟨a, xs, rfl, h1, fun p hp => e_lst l q (denAll_cut h2 lo hi) hp⟩
  | tup ds =>
    have hd' := hd.den fun _ e => nomatch e
    obtain ⟨a, xs, rfl, h1, h2⟩ := hd.tup
    cases (show some (D.tup (cut ds lo hi)) = some r from ev)
    refine .inr (.inl ⟨a, xs, rfl, h1, fun hw => ?_, fun _ p hp => e_tup q (denAll_cut h2 lo hi) hp⟩)
    have e : cut ds lo hi = ds := by
      unfold cut
      rw [← h2.length, hw.1, hw.2, List.drop_zero, Nat.sub_zero, h2.length, List.take_length]
    rw [e] at q
    exact e_den q (fun _ _ e => nomatch e) hd'
  | str s =>
    rw [hd.str]
    obtain ⟨hz, rfl⟩ := ite_some (show (if s.length ≤ sizeLine then some (D.str (cut s lo hi)) else none) = some r from ev)
    exact .inr (.inr ⟨⟨s.toArray⟩, rfl, hz, e_str q⟩)
  | _ => exact none_some ev
end
end EV
end
section
set_option autoImplicit false
/-! Ev5: which text is which term of the small language. -/
namespace EV
open PySem PySem.Spec PyProof.Rows L2

structure Pg where
  defs : List DefI
  cls : List (Str × Option Str)
  consts : List (Str × D)

mutual
def D.beq : D → D → Bool
  | .non, .non => true
  | .bl a, .bl b => a == b
  | .int a, .int b => a == b
  | .str a, .str b => a == b
  | .tup a, .tup b => D.beqs a b
  | .lst a, .lst b => D.beqs a b
  | .fn a, .fn b => a == b
  | _, _ => false
def D.beqs : List D → List D → Bool
  | [], [] => true
  | a :: as, b :: bs => D.beq a b && D.beqs as bs
  | _, _ => false
end
mutual
theorem D.beq_eq : ∀ {a b : D}, D.beq a b = true → a = b
  | .non, .non, _ => rfl
  | .bl a, .bl b, h => by rw [show a = b by simpa [D.beq] using h]
  | .int a, .int b, h => by rw [show a = b by simpa [D.beq] using h]
  | .str a, .str b, h => by rw [show a = b by simpa [D.beq] using h]
  | .tup a, .tup b, h => by rw [D.beqs_eq (show D.beqs a b = true by simpa [D.beq] using h)]
  | .lst a, .lst b, h => by rw [D.beqs_eq (show D.beqs a b = true by simpa [D.beq] using h)]
  | .fn a, .fn b, h => by rw [show a = b by simpa [D.beq] using h]
  | .non, .bl _, h => by simp [D.beq] at h
  | .non, .int _, h => by simp [D.beq] at h
  | .non, .str _, h => by simp [D.beq] at h
  | .non, .tup _, h => by simp [D.beq] at h
  | .non, .lst _, h => by simp [D.beq] at h
  | .non, .fn _, h => by simp [D.beq] at h
  | .bl _, .non, h => by simp [D.beq] at h
  | .bl _, .int _, h => by simp [D.beq] at h
  | .bl _, .str _, h => by simp [D.beq] at h
  | .bl _, .tup _, h => by simp [D.beq] at h
  | .bl _, .lst _, h => by simp [D.beq] at h
  | .bl _, .fn _, h => by simp [D.beq] at h
  | .int _, .non, h => by simp [D.beq] at h
  | .int _, .bl _, h => by simp [D.beq] at h
  | .int _, .str _, h => by simp [D.beq] at h
  | .int _, .tup _, h => by simp [D.beq] at h
  | .int _, .lst _, h => by simp [D.beq] at h
  | .int _, .fn _, h => by simp [D.beq] at h
  | .str _, .non, h => by simp [D.beq] at h
  | .str _, .bl _, h => by simp [D.beq] at h
  | .str _, .int _, h => by simp [D.beq] at h
  | .str _, .tup _, h => by simp [D.beq] at h
  | .str _, .lst _, h => by simp [D.beq] at h
  | .str _, .fn _, h => by simp [D.beq] at h
  | .tup _, .non, h => by simp [D.beq] at h
  | .tup _, .bl _, h => by simp [D.beq] at h
  | .tup _, .int _, h => by simp [D.beq] at h
  | .tup _, .str _, h => by simp [D.beq] at h
  | .tup _, .lst _, h => by simp [D.beq] at h
  | .tup _, .fn _, h => by simp [D.beq] at h
  | .lst _, .non, h => by simp [D.beq] at h
  | .lst _, .bl _, h => by simp [D.beq] at h
  | .lst _, .int _, h => by simp [D.beq] at h
  | .lst _, .str _, h => by simp [D.beq] at h
  | .lst _, .tup _, h => by simp [D.beq] at h
  | .lst _, .fn _, h => by simp [D.beq] at h
  | .fn _, .non, h => by simp [D.beq] at h
  | .fn _, .bl _, h => by simp [D.beq] at h
  | .fn _, .int _, h => by simp [D.beq] at h
  | .fn _, .str _, h => by simp [D.beq] at h
  | .fn _, .tup _, h => by simp [D.beq] at h
  | .fn _, .lst _, h => by simp [D.beq] at h
theorem D.beqs_eq : ∀ {a b : List D}, D.beqs a b = true → a = b
  | [], [], _ => rfl
  | a :: as, b :: bs, h => by
    simp only [D.beqs, Bool.and_eq_true] at h
    rw [D.beq_eq h.1, D.beqs_eq h.2]
  | [], _ :: _, h => by simp [D.beqs] at h
  | _ :: _, [], h => by simp [D.beqs] at h
end

/-! ### owned slots in a term; what it may change -/
mutual
def E.flags (own : List Nat) : E → List Nat
  | .var i => if own.contains i then [i] else []
  | .tup es => es.flags own
  | .lst es => es.flags own
  | _ => []
def Es.flags (own : List Nat) : Es → List Nat
  | .nil => []
  | .cons e es => e.flags own ++ es.flags own
end
mutual
def E.muts : E → List Nat
  | .un _ a => a.muts
  | .bin _ a c => a.muts ++ c.muts
  | .slL a l => a.muts ++ l.muts
  | .slH a l => a.muts ++ l.muts
  | .slLH a l h => a.muts ++ (l.muts ++ h.muts)
  | .tup es => es.muts
  | .lst es => es.muts
  | .and_ a b => a.muts ++ b.muts
  | .or_ a b => a.muts ++ b.muts
  | .not_ a => a.muts
  | .ite c a b => c.muts ++ (a.muts ++ b.muts)
  | .chain _ _ a b c => a.muts ++ (b.muts ++ c.muts)
  | .call _ _ _ es => es.muts
  | .callIo _ i es => i :: es.muts
  | .callT _ a es => a.muts ++ es.muts
  | .callv g es => g.muts ++ es.muts
  | .pop i e => i :: e.muts
  | .comp _ _ it e => it.muts ++ e.muts
  | .compIf _ _ it c e => it.muts ++ (c.muts ++ e.muts)
  | _ => []
def Es.muts : Es → List Nat
  | .nil => []
  | .cons e es => e.muts ++ es.muts
def It.muts : It → List Nat
  | .seq e => e.muts
  | .enum e => e.muts
  | .zip a b => a.muts ++ b.muts
  | .range1 a => a.muts
  | .range2 a b => a.muts ++ b.muts
end
def It.flags (own : List Nat) : It → List Nat
  | .seq e => e.flags own
  | .enum e => e.flags own
  | .zip a b => a.flags own ++ b.flags own
  | .range1 _ => []
  | .range2 _ _ => []
def E.isVar : E → Bool
  | .var _ => true
  | _ => false
/-- shared data -/
def E.st (own : List Nat) (e : E) : Bool := (e.flags own).isEmpty
/-- shared data, or just an owned list -/
def E.w (own : List Nat) (e : E) : Bool := e.st own || e.isVar
/-- a new list (or no list) -/
def E.fresh : E → Bool
  | .un u _ => u.fresh
  | .bin b _ _ => b.fresh
  | .slL _ _ => true
  | .slH _ _ => true
  | .slLH _ _ _ => true
  | .lst _ => true
  | .ite _ a b => a.fresh && b.fresh
  | .or_ a b => a.fresh && b.fresh
  | .call _ fr _ _ => fr
  | .comp _ _ _ _ => true
  | .compIf _ _ _ _ _ => true
  | _ => false

/-! ### shapes -/
def plainA : Expr → Bool
  | .Starred .. => false
  | _ => true
def noSet : Expr → Bool
  | .Set .. => false
  | _ => true
def noSlice : Expr → Bool
  | .Slice .. => false
  | _ => true
/-- a callee that is just evaluated -/
def noAttr : Expr → Bool
  | .Subscript .. => true
  | .Name .. => true
  | _ => false
def noCallE : Expr → Bool
  | .Call .. => false
  | _ => true
def glB (sc : Scope) (x : Str) : Bool := decide (sc.names.lookup x = some .globalImplicit) && !(x == ("__debug__" : Str)) && !(x == ("__name__" : Str))
def visB (sc : Scope) (x : Str) : Bool := (decide (sc.names.lookup x = some .local) || (decide (sc.names.lookup x = some .cell) || decide (sc.names.lookup x = some .free))) && !(x == ("__debug__" : Str)) && !(x == ("__classdict__" : Str))
def locB (sc : Scope) (x : Str) : Bool := decide (sc.names.lookup x = some .local) || decide (sc.names.lookup x = some .cell)

def chkLit : D → Expr → Bool
  | .non, .Constant .none _ _ => true
  | .bl b, .Constant (.bool c) _ _ => b == c
  | .int i, .Constant (.int j) _ _ => i == j
  | .str s, .Constant (.str x) _ _ => s == x.cps.toList
  | .tup [], .Tuple [] _ _ => true
  | _, _ => false
/-- a built-in by name, of one operand -/
def U.bname : U → Option Str
  | .len => some "len"
  | .tuple => some "tuple"
  | .list => some "list"
  | .sum => some "sum"
  | .all => some "all"
  | .any => some "any"
  | .abs => some "abs"
  | .int => some "int"
  | .str => some "str"
  | .min => some "min"
  | .max => some "max"
  | _ => none
/-- isinstance: the names of the types -/
def U.isa : U → Option (List Str)
  | .isInt => some ["int"]
  | .isBool => some ["bool"]
  | .isStr => some ["str"]
  | .isTup => some ["tuple"]
  | .isLst => some ["list"]
  | .isLT => some ["list", "tuple"]
  | .isBS => some ["bool", "str"]
  | _ => none
def U.shape (sc : Scope) (u : U) (e : Expr) : Option Expr :=
  match u.bname with
  | some n => match e with
    | .Call (.Name f _) [x] [] _ => if f == n && glB sc f && plainA x then some x else none
    | _ => none
  | none => match u.isa with
    | some [t] => match e with
      | .Call (.Name f _) [x, .Name y _] [] _ => if f == ("isinstance" : Str) && glB sc f && y == t && glB sc y && plainA x then some x else none
      | _ => none
    | some [t, t'] => match e with
      | .Call (.Name f _) [x, .Tuple [.Name y _, .Name z _] _ _] [] _ => if f == ("isinstance" : Str) && glB sc f && y == t && glB sc y && z == t' && glB sc z && plainA x then some x else none
      | _ => none
    | _ => match u, e with
      | .neg, .UnaryOp .USub x _ => some x
      | .isNone, .Compare x [.Is] [.Constant .none _ _] _ => some x
      | .notNone, .Compare x [.IsNot] [.Constant .none _ _] _ => some x
      | _, _ => none
def B.opr : B → Option Operator
  | .add => some .Add
  | .sub => some .Sub
  | .mul => some .Mult
  | .fdiv => some .FloorDiv
  | .mod => some .Mod
  | .pow => some .Pow
  | _ => none
def B.shape (sc : Scope) (b : B) (e : Expr) : Option (Expr × Expr) :=
  match b.opr with
  | some o => match e with
    | .BinOp x o' y _ => if o = o' then some (x, y) else none
    | _ => none
  | none => match b, e with
    | .cmp c, .Compare x [o] [y] _ => if c.op = o ∧ noSet y = true then some (x, y) else none
    | .idx, .Subscript x y _ => if noSlice y then some (x, y) else none
    | .split, .Call (.Attribute x n ap) [y] [] cp => if n == ("split" : Str) && (ap.endLine == cp.line) && noCallE x && plainA y then some (x, y) else none
    | .join, .Call (.Attribute x n ap) [y] [] cp => if n == ("join" : Str) && (ap.endLine == cp.line) && noCallE x && plainA y then some (x, y) else none
    | .min2, .Call (.Name f _) [x, y] [] _ => if f == ("min" : Str) && glB sc f && plainA x && plainA y then some (x, y) else none
    | .max2, .Call (.Name f _) [x, y] [] _ => if f == ("max" : Str) && glB sc f && plainA x && plainA y then some (x, y) else none
    | _, _ => none

mutual
def Tg.slots : Tg → List Nat
  | .nm i => [i]
  | .tp ts => ts.slots
def Tgs.slots : Tgs → List Nat
  | .nil => []
  | .cons t ts => t.slots ++ ts.slots
end
mutual
def chkT (N : List Str) (sc : Scope) : Tg → Expr → Bool
  | .nm i, .Name x _ => decide (N[i]? = some x) && locB sc x
  | .tp ts, .Tuple es _ _ => chkTs N sc ts es
  | _, _ => false
def chkTs (N : List Str) (sc : Scope) : Tgs → List Expr → Bool
  | .nil, [] => true
  | .cons t ts, e :: es => plainA e && chkT N sc t e && chkTs N sc ts es
  | _, _ => false
end

section
variable (P : Pg) (own : List Nat) (N : List Str)
def constB (x : Str) (d : D) : Bool := P.consts.any fun p => p.1 == x && p.2.beq d
def quietE (e : E) : Bool := e.muts.isEmpty
mutual
def chkE : E → Scope → Expr → Bool
  | .lit d, _, e => chkLit d e
  | .var i, sc, .Name x _ => decide (N[i]? = some x) && visB sc x
  | .glob x d, sc, .Name y _ => x == y && glB sc x && constB P x d
  | .fn f, sc, .Name y _ => match P.defs[f]? with
    | some di => di.name == y && glB sc y && !di.io && !di.fr
    | none => false
  | .un u a, sc, e => match u.shape sc e with
    | some x => chkE a sc x && a.w own
    | none => false
  | .bin b a c, sc, e => match b.shape sc e with
    | some (x, y) => chkE a sc x && chkE c sc y && a.w own && c.w own && (a.st own || quietE c)
    | none => false
  | .slL a l, sc, .Subscript x (.Slice (some l') none none _) _ => chkE a sc x && chkE l sc l' && a.w own && l.st own && (a.st own || quietE l)
  | .slH a l, sc, .Subscript x (.Slice none (some l') none _) _ => chkE a sc x && chkE l sc l' && a.w own && l.st own && (a.st own || quietE l)
  | .slLH a l h, sc, .Subscript x (.Slice (some l') (some h') none _) _ => chkE a sc x && chkE l sc l' && chkE h sc h' && a.w own && l.st own && h.st own && (a.st own || (quietE l && quietE h))
  | .tup es, sc, .Tuple xs _ _ => chkEs es sc xs
  | .lst es, sc, .List xs _ => chkEs es sc xs && (es.flags own).isEmpty
  | .and_ a b, sc, .BoolOp .And (x :: y :: r) pos => chkE a sc x && a.st own && b.st own && (match r with
    | [] => chkE b sc y
    | z :: r => chkE b sc (.BoolOp .And (y :: z :: r) pos))
  | .or_ a b, sc, .BoolOp .Or (x :: y :: r) pos => chkE a sc x && a.st own && b.st own && (match r with
    | [] => chkE b sc y
    | z :: r => chkE b sc (.BoolOp .Or (y :: z :: r) pos))
  | .not_ a, sc, .UnaryOp .Not x _ => chkE a sc x && a.w own
  | .ite c a b, sc, .IfExp x y z _ => chkE c sc x && chkE a sc y && chkE b sc z && c.w own && a.st own && b.st own
  | .chain o p a b c, sc, .Compare x [o', p'] [y, z] _ => decide (o.op = o') && decide (p.op = p') && noSet y && noSet z && chkE a sc x && chkE b sc y && chkE c sc z && a.st own && b.st own && c.st own
  | .call fl fr f es, sc, .Call (.Name y _) xs [] _ => (match P.defs[f]? with
    | some di => di.name == y && glB sc y && !di.io && decide (fr = di.fr) && (!fl || !fr)
    | none => false) && chkEs es sc xs && (fl || (es.flags own).isEmpty)
  | .callIo f i es, sc, .Call (.Name y _) (.Name x _ :: xs) [] _ => (match P.defs[f]? with
    | some di => di.name == y && glB sc y && di.io && !di.fr
    | none => false) && decide (N[i]? = some x) && visB sc x && own.contains i && chkEs es sc xs && (es.flags own).isEmpty
  | .callT f a es, sc, .Call (.Name y _) (x :: xs) [] _ => (match P.defs[f]? with
    | some di => di.name == y && glB sc y && di.io && !di.fr
    | none => false) && chkE a sc x && plainA x && a.fresh && (a.flags own).isEmpty && chkEs es sc xs && (es.flags own).isEmpty && es.muts.isEmpty
  | .callv g es, sc, .Call y xs [] _ => chkE g sc y && g.st own && noAttr y && chkEs es sc xs && (es.flags own).isEmpty
  | .pop i e, sc, .Call (.Attribute (.Name x _) n ap) [y] [] cp => n == ("pop" : Str) && (ap.endLine == cp.line) && plainA y && decide (N[i]? = some x) && visB sc x && own.contains i && chkE e sc y && e.st own
  | .comp vs tg it e, sc, .ListComp elt [⟨t, iter, [], 0⟩] scope _ => blkC N sc scope vs && chkT N scope tg t && chkI it sc iter t && chkE e scope elt && e.st own && ((it.flags own).all fun i => !e.muts.contains i) && (e.muts.all fun i => own.contains i) && (tg.slots.all fun i => (vs.map (·.2)).contains i) && ((vs.map (·.2)).all fun i => !own.contains i)
  | .compIf vs tg it c e, sc, .ListComp elt [⟨t, iter, [x], 0⟩] scope _ => blkC N sc scope vs && chkT N scope tg t && chkI it sc iter t && chkE c scope x && chkE e scope elt && c.w own && e.st own && ((it.flags own).all fun i => !(c.muts ++ e.muts).contains i) && ((c.muts ++ e.muts).all fun i => own.contains i) && (tg.slots.all fun i => (vs.map (·.2)).contains i) && ((vs.map (·.2)).all fun i => !own.contains i)
  | _, _, _ => false
def chkEs : Es → Scope → List Expr → Bool
  | .nil, _, [] => true
  | .cons e es, sc, x :: xs => plainA x && chkE e sc x && chkEs es sc xs && (e.st own || es.muts.isEmpty)
  | _, _, _ => false
/-- t: the target's text -/
def chkI : It → Scope → Expr → Expr → Bool
  | .seq e, sc, x, _ => chkE e sc x && e.w own && noSet x
  | .enum e, sc, .Call (.Name f _) [x] [] _, .Tuple _ _ _ => f == ("enumerate" : Str) && glB sc f && plainA x && chkE e sc x && e.w own
  | .zip a b, sc, .Call (.Name f _) [x, y] [] _, .Tuple _ _ _ => f == ("zip" : Str) && glB sc f && plainA x && plainA y && chkE a sc x && chkE b sc y && a.w own && b.w own && (a.st own || quietE b)
  | .range1 a, sc, .Call (.Name f _) [x] [] _, _ => f == ("range" : Str) && glB sc f && plainA x && chkE a sc x && a.st own
  | .range2 a b, sc, .Call (.Name f _) [x, y] [] _, _ => f == ("range" : Str) && glB sc f && plainA x && plainA y && chkE a sc x && chkE b sc y && a.st own && b.st own
  | _, _, _, _ => false
end
end

/-! ### what a def promises -/
def spD (K : PySem.W.Frag) (FA CA : Nat → Option Addr) (cls : List (Str × Option Str)) (call : List D → CR) (di : DefI) : Sp := fun vs H Q E =>
  ∃ (S : Sh) (ds : List D) (io : Option Addr), Live S H ∧ vs.length = di.np ∧
    ((di.io = false ∧ io = none ∧ DenAll K FA S H vs ds) ∨
     (di.io = true ∧ ∃ a ws d es, io = some a ∧ vs = .ref a :: ws ∧ ds = d :: es ∧ Own K FA S H (.ref a) d ∧ DenAll K FA S H ws es)) ∧
    match call ds with
    | .ok d out => ∀ v S' H', Ext S H S' H' → (∀ b o, H b = some o → io ≠ some b → H' b = some o) → (∀ a, io = some a → Own K FA S' H' (.ref a) out) → (if di.fr = true then (Own K FA S' H' v d ∧ ∀ a, v = .ref a → H a = none) ∨ ((∀ ds, d ≠ .lst ds) ∧ Den K FA S' H' v d) else Den K FA S' H' v d) → Q v H'
    | .exc x out => ∀ c dd S' H', Ext S H S' H' → (∀ b o, H b = some o → io ≠ some b → H' b = some o) → (∀ a, io = some a → Own K FA S' H' (.ref a) out) → ExcDen K FA CA cls S' H' x c dd → E c dd H'
    | .bad => False

def builtinNames : List Str := ["len", "tuple", "list", "sum", "all", "any", "abs", "int", "str", "min", "max", "isinstance", "bool", "enumerate", "zip", "range", "sorted", "set", "dict"]

/-- the names of the text, and of the block that runs -/
structure SX (sc : Scope) (X : Cx) : Prop where
  gl : ∀ x, sc.names.lookup x = some .globalImplicit → X.env.scope.names.lookup x = some .globalImplicit
  lo : ∀ x, sc.names.lookup x = some .local → X.env.scope.names.lookup x = some .local
  ce : ∀ x, sc.names.lookup x = some .cell → X.env.scope.names.lookup x = some .cell
  fr : ∀ x, sc.names.lookup x = some .free → X.env.scope.names.lookup x = some .free ∨ X.env.scope.names.lookup x = some .cell
  fn : ∀ x, sc.names.lookup x = some .cell → X.fn x = true
theorem SX.glB {sc : Scope} {X : Cx} (h : SX sc X) {x : Str} (e : glB sc x = true) : glB X.env.scope x = true := by
  unfold EV.glB at *
  simp only [Bool.and_eq_true, decide_eq_true_eq] at *
  exact ⟨⟨h.gl x e.1.1, e.1.2⟩, e.2⟩
theorem SX.visB {sc : Scope} {X : Cx} (h : SX sc X) {x : Str} (e : visB sc x = true) : visB X.env.scope x = true := by
  unfold EV.visB at *
  simp only [Bool.and_eq_true, Bool.or_eq_true, decide_eq_true_eq] at *
  refine ⟨⟨?_, e.1.2⟩, e.2⟩
  rcases e.1.1 with q | q | q
  · exact .inl (h.lo x q)
  · exact .inr (.inl (h.ce x q))
  · rcases h.fr x q with q | q
    · exact .inr (.inr q)
    · exact .inr (.inl q)
theorem SX.refl {X : Cx} (hf : ∀ x, X.env.scope.names.lookup x = some .cell → X.fn x = true) : SX X.env.scope X := ⟨fun _ h => h, fun _ h => h, fun _ h => h, fun _ h => .inl h, hf⟩
theorem relS_fwd {sc : Scope} {x : Str} : ∀ {names : List (Str × NameKind)}, names.lookup x = some .free →
    (names.map fun (n, k) => if (k == NameKind.free && sc.kind == .function && sc.names.lookup n == some .cell) then (n, NameKind.cell) else (n, k)).lookup x = some .free ∨
    (names.map fun (n, k) => if (k == NameKind.free && sc.kind == .function && sc.names.lookup n == some .cell) then (n, NameKind.cell) else (n, k)).lookup x = some .cell
  | [], h => by simp at h
  | (n, k₀) :: r, h => by
    have ih := @relS_fwd sc x r
    show List.lookup x ((if (k₀ == NameKind.free && sc.kind == .function && sc.names.lookup n == some .cell) = true then (n, NameKind.cell) else (n, k₀)) :: (r.map _)) = some _ ∨ List.lookup x ((if (k₀ == NameKind.free && sc.kind == .function && sc.names.lookup n == some .cell) = true then (n, NameKind.cell) else (n, k₀)) :: (r.map _)) = some _
    cases hx : x == n with
    | true =>
      simp only [List.lookup_cons, hx] at h
      cases h
      split
      · simp only [List.lookup_cons, hx]
        exact .inr trivial
      · simp only [List.lookup_cons, hx]
        exact .inl trivial
    | false =>
      simp only [List.lookup_cons, hx] at h
      split <;> (simp only [List.lookup_cons, hx]; exact ih h)
theorem SX.blk {X : Cx} {s : Shared} {H : Hp} {scope : Scope} {cl : List (Str × Addr)} {C : Addr} {fp : List Addr} : SX scope (X.blk s H scope (compEnvC scope cl C X.env) fp) where
  gl := fun x h => lookup_relS_keep (by intro z; cases z) h
  lo := fun x h => lookup_relS_keep (by intro z; cases z) h
  ce := fun x h => lookup_relS_keep (by intro z; cases z) h
  fr := fun x h => relS_fwd h
  fn := fun x h => by
    show (scope.names.lookup x == some .cell) = true
    rw [h]
    rfl
/-- a shape stays where the names stay -/
theorem U.shape_mono {sc : Scope} {X : Cx} (h : SX sc X) {u : U} {e x : Expr} (hs : u.shape sc e = some x) : u.shape X.env.scope e = some x := by
  unfold U.shape at *
  cases hb : u.bname with
  | some n =>
    rw [hb] at hs
    simp only at hs ⊢
    split at hs
    · obtain ⟨hc, hx⟩ := ite_some hs
      simp only [Bool.and_eq_true] at hc
      rw [if_pos (by simp only [Bool.and_eq_true]; exact ⟨⟨hc.1.1, h.glB hc.1.2⟩, hc.2⟩)]
      rw [hx]
    · cases hs
  | none =>
    rw [hb] at hs
    simp only at hs ⊢
    split at hs
    · split at hs
      · obtain ⟨hc, hx⟩ := ite_some hs
        simp only [Bool.and_eq_true] at hc
        rw [if_pos (by simp only [Bool.and_eq_true]; exact ⟨⟨⟨⟨hc.1.1.1.1, h.glB hc.1.1.1.2⟩, hc.1.1.2⟩, h.glB hc.1.2⟩, hc.2⟩)]
        rw [hx]
      · cases hs
    · split at hs
      · obtain ⟨hc, hx⟩ := ite_some hs
        simp only [Bool.and_eq_true] at hc
        rw [if_pos (by simp only [Bool.and_eq_true]; exact ⟨⟨⟨⟨⟨⟨hc.1.1.1.1.1.1, h.glB hc.1.1.1.1.1.2⟩, hc.1.1.1.1.2⟩, h.glB hc.1.1.1.2⟩, hc.1.1.2⟩, h.glB hc.1.2⟩, hc.2⟩)]
        rw [hx]
      · cases hs
    · exact hs
theorem B.shape_mono {sc : Scope} {X : Cx} (h : SX sc X) {b : B} {e : Expr} {x : Expr × Expr} (hs : b.shape sc e = some x) : b.shape X.env.scope e = some x := by
  unfold B.shape at *
  cases hb : b.opr with
  | some n =>
    rw [hb] at hs
    exact hs
  | none =>
    rw [hb] at hs
    simp only at hs ⊢
    split at hs
    · exact hs
    · exact hs
    · exact hs
    · exact hs
    · obtain ⟨hc, hx⟩ := ite_some hs
      simp only [Bool.and_eq_true] at hc
      rw [if_pos (by simp only [Bool.and_eq_true]; exact ⟨⟨⟨hc.1.1.1, h.glB hc.1.1.2⟩, hc.1.2⟩, hc.2⟩)]
      rw [hx]
    · obtain ⟨hc, hx⟩ := ite_some hs
      simp only [Bool.and_eq_true] at hc
      rw [if_pos (by simp only [Bool.and_eq_true]; exact ⟨⟨⟨hc.1.1.1, h.glB hc.1.1.2⟩, hc.1.2⟩, hc.2⟩)]
      rw [hx]
    · cases hs

/-- the context of a piece of text -/
structure XOk (P : Pg) (R0 : Rd0) (k : Nat) (X : Cx) : Prop where
  calm : X.calm = true
  room : Room k X.A
  nd : X.N.Nodup
  hK : X.K = R0.F.K
  takes : Takes X R0.W
  nms : ∀ x ∈ builtinNames, X.mg x = none
  cls : R0.cls = P.cls
  defs : ∀ f di, P.defs[f]? = some di → ∃ a fd, (di.io = false → di.fr = false → R0.F.FA f = some a) ∧ X.mg di.name = some (.ref a) ∧ PySem.W.keepIn X.K (.ref a) = true ∧ Binds X.K fd (di.N.take di.np) [] ∧
    FnOk X.prog X.w X.K X.mg X.base (CX X.prog X.w) k a fd (di.N.take di.np) (spD X.K R0.F.FA R0.CA P.cls (R0.call f) di)
  fns : ∀ f a, R0.F.FA f = some a → ∃ di, P.defs[f]? = some di ∧ di.io = false ∧ di.fr = false
  lens : ∀ f di ds, P.defs[f]? = some di → R0.call f ds ≠ .bad → ds.length = di.np
  consts : ∀ x d, constB P x d = true → ∃ u v, X.mg x = some u ∧ RelV v u ∧ ∀ S H, Den X.K R0.F.FA S H v d
end EV
end
section
set_option autoImplicit false
/-! Ev6: the small language's terms are sound, node by node. -/
namespace EV
open PySem PySem.Spec PyProof.Rows L2

/-! ### small facts of the text -/
theorem starEach_cons {e : Expr} {es : List Expr} {env : PySem.Env} (h : plainA e = true) : starEach (e :: es) env = (false, eval e env) :: starEach es env := by
  cases e <;> first | rfl | cases h
theorem back_nil {pos : Pos} {env : PySem.Env} : (backTo pos (starEach [] env)).any (·.1) = false := rfl
theorem back_cons {e : Expr} {es : List Expr} {pos : Pos} {env : PySem.Env} (h : plainA e = true) (k : (backTo pos (starEach es env)).any (·.1) = false) : (backTo pos (starEach (e :: es) env)).any (·.1) = false := by
  rw [starEach_cons h]
  show (false || (backTo pos (starEach es env)).any (·.1)) = false
  rw [k]
  rfl
theorem nomark' {op : CmpOp} {e : Expr} (h : noSet e = true) : behindInMarks op e = false := by
  cases e <;> first | rfl | cases h
theorem base' {o : Expr} {n : Str} {env : PySem.Env} (h : noCallE o = true) : attributeBase o n env (eval o env) = eval o env := by
  cases o <;> first | rfl | cases h
theorem plainIx {e : Expr} (h : noSlice e = true) : PlainIx e := by
  intro o i
  cases e <;> first | rfl | cases h
theorem glB_of {X : Cx} {x : Str} (h : glB X.env.scope x = true) : Gl X x ∧ (x == ("__debug__" : Str)) = false ∧ x ≠ "__name__" := by
  unfold glB at h
  simp only [Bool.and_eq_true, Bool.not_eq_true', decide_eq_true_eq] at h
  refine ⟨h.1.1, h.1.2, fun e => ?_⟩
  have := h.2
  rw [e] at this
  simp at this
theorem visB_of {X : Cx} {x : Str} (h : visB X.env.scope x = true) : Vis X.env.scope x ∧ (x == ("__debug__" : Str)) = false ∧ (x == ("__classdict__" : Str)) = false := by
  unfold visB at h
  simp only [Bool.and_eq_true, Bool.or_eq_true, Bool.not_eq_true', decide_eq_true_eq] at h
  exact ⟨h.1.1, h.1.2, h.2⟩
theorem truV_of {K : PySem.W.Frag} {FA : Nat → Option Addr} {S : Sh} {H : Hp} {v : V} {d : D} {b : Bool} (h : WDen K FA S H v d) (e : d.truth = some b) : TruV K v H b := by
  cases d with
  | non =>
    rw [h.non]
    cases (show some false = some b from e)
    exact (rfl : false = false)
  | bl c =>
    rw [h.bl]
    cases (show some _ = some b from e)
    exact (rfl : b = b)
  | int i =>
    rw [h.int]
    exact (Option.some.inj (show some (i != 0) = some b from e)).symm
  | tup ds =>
    obtain ⟨a, xs, rfl, h1, h2⟩ := h.tup
    cases (show some (!ds.isEmpty) = some b from e)
    refine .inr (.inl ⟨xs, h1, ?_⟩)
    have := h2.length
    cases xs <;> cases ds <;> first | rfl | cases this
  | lst ds =>
    obtain ⟨a, xs, rfl, h1, h2⟩ := h.lst
    cases (show some (!ds.isEmpty) = some b from e)
    refine .inl ⟨xs, h1, ?_⟩
    have := h2.length
    cases xs <;> cases ds <;> first | rfl | cases this
  | _ => cases (show (none : Option Bool) = some b from e)

/-! ### what is got of a term -/
def gE (F : Fr0) (e : E) : Hp → Sh → Hp → St → V → D → Prop :=
  if e.fresh = true then gNew F else if e.flags F.own = [] then gSt F else if e.isVar = true then fun _ S H σ v d => Own F.K F.FA S H v d ∧ ∀ i ∈ e.flags F.own, σ[i]? = some (some v) else gFl F (e.flags F.own)

section
variable {R0 : Rd0} {ms ms' : List Nat} {f : EV.Env → R D} {σ : St} {H : Hp} {Q : VK} {e : E}
theorem tG.mono (hm : ∀ j ∈ ms, j ∈ ms') {g : Hp → Sh → Hp → St → V → D → Prop} (h : tG R0 ms' f g σ H Q) : tG R0 ms f g σ H Q := by
  obtain ⟨S, ρ, En, h⟩ := h
  exact ⟨S, ρ, En, h.imp (fun d ρ' h v S' H' N g => h v S' H' (N.mono hm) g) fun x ρ' h => h.less hm⟩
theorem tG.got {g g' : Hp → Sh → Hp → St → V → D → Prop} (k : ∀ S H' v d, g' H S H' σ v d → g H S H' σ v d) (h : tG R0 ms f g σ H Q) : tG R0 ms f g' σ H Q := by
  obtain ⟨S, ρ, En, h⟩ := h
  exact ⟨S, ρ, En, h.imp (fun d ρ' h v S' H' N q => h v S' H' N (k _ _ _ _ q)) fun x ρ' h => h⟩
theorem fresh_novar (h : e.fresh = true) : e.isVar = false := by
  cases e <;> first | rfl | cases h
theorem ge_st (he : e.st R0.F.own = true) (h : tG R0 ms f (gSt R0.F) σ H Q) : tG R0 ms f (gE R0.F e) σ H Q := by
  unfold gE
  by_cases c : e.fresh = true
  · rw [if_pos c]
    exact gNew_st h
  · rw [if_neg c, if_pos (List.isEmpty_iff.mp he)]
    exact h
theorem ge_w (he : e.w R0.F.own = true) (h : tG R0 ms f (gW R0.F) σ H Q) : tG R0 ms f (gE R0.F e) σ H Q := by
  by_cases c : e.st R0.F.own = true
  · exact ge_st c (gSt_w h)
  · unfold E.w at he
    rw [Bool.or_eq_true] at he
    have hv : e.isVar = true := he.resolve_left c
    unfold gE
    rw [if_neg (fun z => by rw [fresh_novar z] at hv; cases hv), if_neg (fun z => c (List.isEmpty_iff.mpr z)), if_pos hv]
    exact h.got fun _ _ _ _ q => .inr q.1
theorem ge_fl (h : tG R0 ms f (gFl R0.F (e.flags R0.F.own)) σ H Q) : tG R0 ms f (gE R0.F e) σ H Q := by
  by_cases c : e.st R0.F.own = true
  · exact ge_st c (gSt_fl h)
  · unfold gE
    by_cases c1 : e.fresh = true
    · rw [if_pos c1]
      exact gNew_st (gSt_fl h)
    · rw [if_neg c1, if_neg (fun z => c (List.isEmpty_iff.mpr z))]
      by_cases hv : e.isVar = true
      · rw [if_pos hv]
        refine h.got fun S H' v d q => ?_
        obtain ⟨⟨a, xs, ds, rfl, ns, ha, rfl, hd⟩, hi⟩ := q
        cases hfl : e.flags R0.F.own with
        | nil => exact absurd (List.isEmpty_iff.mpr hfl) c
        | cons i r =>
          exact .lst (.inl (.inr ⟨i, by rw [← hfl, hfl]; exact List.mem_cons_self, hi i (by rw [hfl]; exact List.mem_cons_self)⟩)) (.inl (.inl ha)) (hd.more fun _ h => .inl h)
      · rw [if_neg hv]
        exact h
theorem ge_new (he : e.fresh = true) : gE R0.F e = gNew R0.F := if_pos he
/-- the readings of a term with its answer's kind -/
theorem ge_of {H : Hp} {fr : Bool} (h1 : e.fresh = fr) (h2 : e.flags R0.F.own = []) {H0 : Hp} {S' : Sh} {H' : Hp} {v : V} {d : D} (live : ∀ b o, H0 b = some o → ∃ o', H b = some o') (g : gotR R0.F.K R0.F.FA fr H S' H' v d) : gE R0.F e H0 S' H' σ v d := by
  unfold gE
  unfold gotR at g
  cases fr with
  | true =>
    rw [if_pos h1]
    rcases g with ⟨g1, g2⟩ | g
    · refine .inl ⟨g1, fun a ha => ?_⟩
      cases q : H0 a with
      | none => rfl
      | some o =>
        obtain ⟨o', e'⟩ := live a o q
        rw [g2 a ha] at e'; cases e'
    · exact .inr g
  | false =>
    rw [if_neg (by rw [h1]; exact Bool.false_ne_true), if_pos h2]
    exact g
end

/-- a term and its text -/
structure SE (R0 : Rd0) (X : Cx) (e : E) (ast : Expr) : Prop where
  pe : PE X ast (tG R0 e.muts (evE R0.call e) (gE R0.F e))
  pt : e.w R0.F.own = true → PT X ast (tCv R0 e.muts (evC R0.call e))

section
variable {P : Pg} {R0 : Rd0} {k : Nat} {X : Cx} {e a c : E} {ast x y : Expr}
theorem SE.peSt (h : SE R0 X e ast) (he : e.st R0.F.own = true) : PE X ast (tG R0 e.muts (evE R0.call e) (gSt R0.F)) := h.pe.evImp fun _ _ _ => ge_st he
theorem SE.peW (h : SE R0 X e ast) (he : e.w R0.F.own = true) : PE X ast (tG R0 e.muts (evE R0.call e) (gW R0.F)) := h.pe.evImp fun _ _ _ => ge_w he
theorem SE.peFl (h : SE R0 X e ast) : PE X ast (tG R0 e.muts (evE R0.call e) (gFl R0.F (e.flags R0.F.own))) := h.pe.evImp fun _ _ _ => ge_fl
/-- a test by the value's truth -/
theorem pt_by {ms : List Nat} {f : EV.Env → R D} (hK : X.K = R0.F.K) (h : PE X ast (tG R0 ms f (gW R0.F))) (he : ∀ whole, isTrue ast X.env whole = (do let v ← whole; standAt ast.pos; holding [v] (truthy v))) :
    PT X ast (tCv R0 ms fun ρ => (f ρ).bind fun d ρ => R.opt ρ d.truth) := by
  refine (pt_truth h he).evImp fun σ H Q h => ?_
  obtain ⟨S, ρ, En, h⟩ := h
  refine ⟨S, ρ, En, h.bind.imp (fun d ρ' h v S' H' N g => ?_) fun _ _ h => h⟩
  obtain ⟨b, e, q⟩ := KR.opt h
  rw [hK]
  exact ⟨b, truV_of g e, q S' H' N⟩
theorem pt_plain (hX : XOk P R0 k X) (h : PE X ast (tG R0 e.muts (evE R0.call e) (gE R0.F e))) (he : ∀ whole, isTrue ast X.env whole = (do let v ← whole; standAt ast.pos; holding [v] (truthy v))) : SE R0 X e ast :=
  ⟨h, fun hw => pt_by hX.hK (h.evImp fun _ _ _ => ge_w hw) he⟩

/-! ### constants, names -/
theorem n_lit (hX : XOk P R0 k X) {d : D} (h : chkLit d ast = true) : SE R0 X (.lit d) ast := by
  have den : ∀ (v : V), (∀ S H, Den R0.F.K R0.F.FA S H v d) → PE X ast (tC v) → PE X ast (tG R0 (E.lit d).muts (evE R0.call (.lit d)) (gE R0.F (.lit d))) := fun v hv hp => hp.evImp fun σ H Q h => by
    obtain ⟨S, ρ, En, h⟩ := h
    have h' : ∀ v S' H', Nxt R0.F S H [] σ ρ S' H' ρ → gE R0.F (.lit d) H S' H' σ v d → Q v H' := h
    exact h' v S H (Nxt.refl En) (hv S H)
  cases d with
  | non =>
    cases ast <;> first | cases h | skip
    rename_i cst _ _
    cases cst <;> first | cases h | skip
    exact pt_plain hX (den .non (fun _ _ => .non) pe_non) fun _ => rfl
  | bl b =>
    cases ast <;> first | cases h | skip
    rename_i cst _ _
    cases cst <;> first | cases h | skip
    rename_i c
    have e : b = c := by simpa [chkLit] using h
    subst e
    exact pt_plain hX (den (.bl b) (fun _ _ => .bl b) pe_bl) fun _ => rfl
  | int b =>
    cases ast <;> first | cases h | skip
    rename_i cst _ _
    cases cst <;> first | cases h | skip
    rename_i c
    have e : b = c := by simpa [chkLit] using h
    subst e
    exact pt_plain hX (den (.int b) (fun _ _ => .int b) pe_int) fun _ => rfl
  | str b =>
    cases ast <;> first | cases h | skip
    rename_i cst _ _
    cases cst <;> first | cases h | skip
    rename_i c
    have e : b = c.cps.toList := by simpa [chkLit] using h
    subst e
    refine pt_plain hX (den (.str c) (fun _ _ => ?_) pe_str) fun _ => rfl
    exact .str c.cps.toList
  | tup ds =>
    cases ds with
    | cons _ _ => cases ast <;> cases h
    | nil =>
      cases ast <;> first | cases h | skip
      rename_i es _ _
      cases es with
      | cons _ _ => cases h
      | nil =>
        refine pt_plain hX ((pe_tup pa_nil).evImp fun σ H Q h => ?_) fun _ => rfl
        obtain ⟨S, ρ, En, h⟩ := h
        have h' : ∀ v S' H', Nxt R0.F S H [] σ ρ S' H' ρ → gE R0.F (.lit (.tup [])) H S' H' σ v (.tup []) → Q v H' := h
        exact ⟨Nat.zero_le _, fun p hp => h' _ S _ (Nxt.alloc En hp) (.tup (SqT.of upd_same) .nil)⟩
  | _ => cases ast <;> cases h

theorem getD_some {ρ : EV.Env} {i : Nat} {d : D} (h : ρ.getD i none = some d) : ρ[i]? = some (some d) := by
  rw [List.getD_eq_getElem?_getD] at h
  cases e : ρ[i]? with
  | none => rw [e] at h; cases h
  | some o =>
    rw [e] at h
    cases (show o = some d from h)
    rfl
theorem n_var (hX : XOk P R0 k X) {i : Nat} {z : Str} {pos : Pos} (h1 : X.N[i]? = some z) (h2 : visB X.env.scope z = true) : SE R0 X (.var i) (.Name z pos) := by
  obtain ⟨hv, hd, hcd⟩ := visB_of h2
  refine pt_plain hX ((pe_var h1 hv hd hcd).evImp fun σ H Q h => ?_) fun _ => rfl
  obtain ⟨S, ρ, En, h⟩ := h
  obtain ⟨d, e, q⟩ := KR.opt (show KR (R.opt ρ (ρ.getD i none)) _ _ from h)
  have e' := getD_some e
  by_cases ho : i ∈ R0.F.own
  · obtain ⟨v, g1, g2⟩ := En.ow i d ho e'
    refine ⟨v, g1, q v S H (Nxt.refl En) ?_⟩
    have fl : (E.var i).flags R0.F.own = [i] := by
      show (if R0.F.own.contains i then [i] else []) = [i]
      rw [if_pos (List.contains_iff_mem.mpr ho)]
    unfold gE
    rw [if_neg (show ¬ (E.var i).fresh = true from Bool.false_ne_true), fl, if_neg (List.cons_ne_nil _ _), if_pos (show (E.var i).isVar = true from rfl)]
    refine ⟨g2, fun j hj => ?_⟩
    rw [List.mem_singleton.mp hj]
    exact g1
  · obtain ⟨v, g1, g2⟩ := En.sh i d ho e'
    refine ⟨v, g1, q v S H (Nxt.refl En) ?_⟩
    have fl : (E.var i).flags R0.F.own = [] := by
      show (if R0.F.own.contains i then [i] else []) = []
      rw [if_neg (fun z => ho (List.contains_iff_mem.mp z))]
    unfold gE
    rw [if_neg (show ¬ (E.var i).fresh = true from Bool.false_ne_true), if_pos fl]
    exact g2
theorem n_glob (hX : XOk P R0 k X) {z : Str} {d : D} {pos : Pos} (h1 : glB X.env.scope z = true) (h2 : constB P z d = true) : SE R0 X (.glob z d) (.Name z pos) := by
  obtain ⟨hg, hd, _⟩ := glB_of h1
  obtain ⟨u, v, hm, r, den⟩ := hX.consts z d h2
  refine pt_plain hX ((pe_glob hg hm r hd).evImp fun σ H Q h => ?_) fun _ => rfl
  obtain ⟨S, ρ, En, h⟩ := h
  have h' : ∀ v S' H', Nxt R0.F S H [] σ ρ S' H' ρ → gE R0.F (.glob z d) H S' H' σ v d → Q v H' := h
  refine h' v S H (Nxt.refl En) ?_
  show Den _ _ _ _ _ _
  rw [← hX.hK]
  exact den S H
theorem n_fn (hX : XOk P R0 k X) {f : Nat} {di : DefI} {pos : Pos} (h1 : P.defs[f]? = some di) (i1 : di.io = false) (i2 : di.fr = false) (h2 : glB X.env.scope di.name = true) : SE R0 X (.fn f) (.Name di.name pos) := by
  obtain ⟨hg, hd, _⟩ := glB_of h2
  obtain ⟨a, fd, g1, g2, _⟩ := hX.defs f di h1
  refine pt_plain hX ((pe_glob (v := V.ref a) hg g2 rfl hd).evImp fun σ H Q h => ?_) fun _ => rfl
  obtain ⟨S, ρ, En, h⟩ := h
  have h' : ∀ v S' H', Nxt R0.F S H [] σ ρ S' H' ρ → gE R0.F (.fn f) H S' H' σ v (.fn f) → Q v H' := h
  exact h' _ S H (Nxt.refl En) (.fn (g1 i1 i2))
end
end EV
end
section
set_option autoImplicit false
/-! Ev7: nodes of one and two operands. -/
namespace EV
open PySem PySem.Spec PyProof.Rows L2

section
variable {P : Pg} {R0 : Rd0} {k : Nat} {X : Cx} {a c : E} {ast x y : Expr} {σ : St} {H : Hp} {Q : VK}

/-! ### one operand -/
theorem WDen.same {K : PySem.W.Frag} {FA : Nat → Option Addr} {S : Sh} {H H' : Hp} {v : V} {d : D} (E : Same H H') (h : WDen K FA S H v d) : WDen K FA S H' v d := by
  rcases h with h | h
  · exact .inl (h.same E)
  · exact .inr (h.step (Ext.of_same E) fun a _ o e => E a o e)
theorem un_red (hK : X.K = R0.F.K) {u : U} (h : tG R0 (E.un u a).muts (evE R0.call (.un u a)) (gE R0.F (.un u a)) σ H Q) :
    tG R0 a.muts (evE R0.call a) (gW R0.F) σ H (fun v H1 => RU X.K R0.F.FA u v H1 Q) := by
  obtain ⟨S, ρ, En, h⟩ := h
  have h' : KR ((evE R0.call a ρ).bind fun d ρ => R.opt ρ (u.ev d)) _ _ := h
  refine ⟨S, ρ, En, h'.bind.imp (fun d ρ1 h v S1 H1 N g => ?_) fun _ _ h => h⟩
  obtain ⟨r, e, q⟩ := KR.opt h
  rw [hK]
  exact ⟨S1, d, r, N.ok.live, g, e, fun v' S2 H2 z same gr => q v' S2 H2 (N.trans (Nxt.of_same N.ok z same)) (ge_of rfl rfl (fun b o e => N.stp.ext.live b o e) gr)⟩
theorem un_red1 (hK : X.K = R0.F.K) {u : U} (h : tG R0 (E.un u a).muts (evE R0.call (.un u a)) (gE R0.F (.un u a)) σ H Q) :
    tCB (RU1 X.K R0.F.FA u) (tCons (tG R0 a.muts (evE R0.call a) (gW R0.F)) tNil) σ H Q := by
  obtain ⟨S, ρ, En, h⟩ := un_red hK h
  exact ⟨S, ρ, En, h.imp (fun d ρ1 h v S1 H1 N g => ⟨v, rfl, h v S1 H1 N g⟩) fun _ _ h => h⟩

theorem u_call (hX : XOk P R0 k X) : ∀ (u : U) (n : Str), u.bname = some n → n ∈ builtinNames ∧
    ((∃ id, CallR X (.builtin id) (RU1 X.K R0.F.FA u) ∧ bootBuiltins n = some (.builtin id)) ∨ ∃ T, CallR X (.type T) (RU1 X.K R0.F.FA u) ∧ bootBuiltins n = some (.type T)) := by
  intro u n h
  cases u <;> first | cases h | skip
  · exact ⟨by decide, .inl ⟨_, u_len, by decide +kernel⟩⟩
  · exact ⟨by decide, .inr ⟨_, u_tuple, by decide +kernel⟩⟩
  · exact ⟨by decide, .inr ⟨_, u_list, by decide +kernel⟩⟩
  · exact ⟨by decide, .inl ⟨_, u_sum hX.calm, by decide +kernel⟩⟩
  · exact ⟨by decide, .inl ⟨_, u_all hX.calm, by decide +kernel⟩⟩
  · exact ⟨by decide, .inl ⟨_, u_any hX.calm, by decide +kernel⟩⟩
  · exact ⟨by decide, .inl ⟨_, u_abs, by decide +kernel⟩⟩
  · exact ⟨by decide, .inr ⟨_, u_int, by decide +kernel⟩⟩
  · exact ⟨by decide, .inr ⟨_, u_str, by decide +kernel⟩⟩
  · exact ⟨by decide, .inl ⟨_, u_min hX.calm, by decide +kernel⟩⟩
  · exact ⟨by decide, .inl ⟨_, u_max hX.calm, by decide +kernel⟩⟩

/-- isinstance -/
def U.isaF : U → String → Bool
  | .isInt => fun t => t == "int" || t == "bool"
  | .isBool => fun t => t == "bool"
  | .isStr => fun t => t == "str"
  | .isTup => fun t => t == "tuple"
  | .isLst => fun t => t == "list"
  | .isLT => fun t => t == "list" || t == "tuple"
  | .isBS => fun t => t == "bool" || t == "str"
  | _ => fun _ => false
theorem isa_ev : ∀ (u : U) (ts : List Str) (d : D), u.isa = some ts → u.ev d = d.isa u.isaF := by
  intro u ts d h
  cases u <;> first | cases h | skip
  all_goals (cases d <;> rfl)
theorem tyX_of {K : PySem.W.Frag} {FA : Nat → Option Addr} {S : Sh} {H : Hp} {v : V} {d : D} {t : String} (h : WDen K FA S H v d) (e : d.ty = some t) : TyX K H v (.type t) := by
  cases d with
  | non => cases e; rw [h.non]; exact .base .non
  | bl b => cases e; rw [h.bl]; exact .base (.bl b)
  | int i => cases e; rw [h.int]; exact .base (.int i)
  | str s => cases e; rw [h.str]; exact .base (.str _)
  | tup ds =>
    cases e
    obtain ⟨p, xs, rfl, h1, _⟩ := h.tup
    rcases h1 with (h1 | ⟨o, h1⟩) | ⟨o, its, n, e1, e2, _⟩
    · exact .base (.tup h1)
    · exact .fTuple h1
    · exact .kTuple e1 e2
  | lst ds =>
    cases e
    obtain ⟨p, xs, rfl, h1, _⟩ := h.lst
    rcases h1 with (h1 | ⟨o, h1⟩) | ⟨o, its, n, e1, e2, _⟩
    · exact .base (.lst h1)
    · exact .base (.frz h1)
    · exact .kList e1 e2
  | fn f => cases e
theorem kit1 {K : PySem.W.Frag} : ∀ (u : U) (n : Str) (m : String) (d : D) (t : String), u.isa = some [n] → bootBuiltins n = some (.type m) → d.ty = some t → PySem.W.kitOne K (.type t) (.type m) = some (u.isaF t) := by
  intro u n m d t h hb e
  cases u <;> first | cases h | skip
  all_goals first
    | (have hm : m = "int" := by
         have z : bootBuiltins "int" = some (.type "int") := by decide +kernel
         rw [z] at hb
         cases hb
         rfl
       subst hm)
    | (have hm : m = "bool" := by
         have z : bootBuiltins "bool" = some (.type "bool") := by decide +kernel
         rw [z] at hb
         cases hb
         rfl
       subst hm)
    | (have hm : m = "str" := by
         have z : bootBuiltins "str" = some (.type "str") := by decide +kernel
         rw [z] at hb
         cases hb
         rfl
       subst hm)
    | (have hm : m = "tuple" := by
         have z : bootBuiltins "tuple" = some (.type "tuple") := by decide +kernel
         rw [z] at hb
         cases hb
         rfl
       subst hm)
    | (have hm : m = "list" := by
         have z : bootBuiltins "list" = some (.type "list") := by decide +kernel
         rw [z] at hb
         cases hb
         rfl
       subst hm)
    | skip
  all_goals (cases d <;> cases e <;> exact kit_ty (by decide +kernel))
theorem kit2 {K : PySem.W.Frag} {t1 t2 t : String} {b1 b2 : Bool} (h1 : PySem.W.kitOne K (.type t) (.type t1) = some b1) (h2 : PySem.W.kitOne K (.type t) (.type t2) = some b2) : PySem.W.kitAny K (.type t) [.type t1, .type t2] = some (b1 || b2) := by
  refine kitAny_cons h1 (fun e => ?_) fun e => by rw [e]; rfl
  subst e
  refine kitAny_cons h2 (fun e => ?_) fun e => by rw [e]; rfl
  subst e
  rfl
theorem isa_ends {u : U} {ts : List Str} {K : PySem.W.Frag} {FA : Nat → Option Addr} {S : Sh} {d r : D} (hu : u.isa = some ts) (ev : u.ev d = some r) (q : Ends1 K FA u.fresh S H r Q) : ∃ t, d.ty = some t ∧ ∀ H', Same H H' → Q (.bl (u.isaF t)) H' := by
  rw [isa_ev u ts d hu] at ev
  obtain ⟨t, e1, rfl⟩ := opt_map (show d.ty.map (fun t => D.bl (u.isaF t)) = some r from ev)
  refine ⟨t, e1, fun H' same => q _ S H' (Ext.of_same same) same ?_⟩
  unfold gotR
  split
  · exact .inr ⟨(fun _ e => nomatch e), .bl _⟩
  · exact .bl _
theorem u_isa1 {u : U} {n : Str} {m : String} (hu : u.isa = some [n]) (hb : bootBuiltins n = some (.type m)) : CallR X (.builtin "isinstance") (fun vs H Q => ∃ v, vs = [v, .ty m] ∧ RU X.K R0.F.FA u v H Q) := by
  refine CallR.imp call_isi fun xs H Q h => ?_
  obtain ⟨v, rfl, S, d, r, l, hd, ev, q⟩ := h
  obtain ⟨t, e1, q'⟩ := isa_ends hu ev q
  exact ⟨v, .ty m, _, _, _, rfl, .ty m, tyX_of hd e1, kit1 u n m d t hu hb e1, q' H (Same.refl H)⟩
theorem u_isa2 {u : U} {n n' : Str} {m m' : String} {u1 u2 : U} (hu : u.isa = some [n, n']) (h1 : u1.isa = some [n]) (h2 : u2.isa = some [n']) (hb : bootBuiltins n = some (.type m)) (hb' : bootBuiltins n' = some (.type m')) (hf : ∀ t, u.isaF t = (u1.isaF t || u2.isaF t)) :
    CallR X (.builtin "isinstance") (fun vs H Q => ∃ v p, vs = [v, .ref p] ∧ H p = some (.tup [.ty m, .ty m']) ∧ ∃ S d t, WDen X.K R0.F.FA S H v d ∧ d.ty = some t ∧ Q (.bl (u.isaF t)) H) := by
  refine CallR.imp call_isiT fun xs H Q h => ?_
  obtain ⟨v, p, rfl, hp, S, d, t, hd, e1, q⟩ := h
  exact ⟨v, p, _, _, _, _, rfl, hp, .cons (.ty m) (.cons (.ty m') .nil), tyX_of hd e1, kit2 (kit1 u1 n m d t h1 hb e1) (kit1 u2 n' m' d t h2 hb' e1), by rw [← hf]; exact q⟩

theorem boot_int' : bootBuiltins "int" = some (.type "int") := by decide +kernel
theorem boot_bool' : bootBuiltins "bool" = some (.type "bool") := by decide +kernel
theorem boot_str' : bootBuiltins "str" = some (.type "str") := by decide +kernel
theorem boot_tuple' : bootBuiltins "tuple" = some (.type "tuple") := by decide +kernel
theorem boot_list' : bootBuiltins "list" = some (.type "list") := by decide +kernel
theorem boot_isa' : bootBuiltins "isinstance" = some (.builtin "isinstance") := by decide +kernel
theorem isa_one : ∀ (u : U) (n : Str), u.isa = some [n] → n ∈ builtinNames ∧ ∃ m, bootBuiltins n = some (.type m) := by
  intro u n h
  cases u <;> first | cases h | skip
  · exact ⟨by decide, _, boot_int'⟩
  · exact ⟨by decide, _, boot_bool'⟩
  · exact ⟨by decide, _, boot_str'⟩
  · exact ⟨by decide, _, boot_tuple'⟩
  · exact ⟨by decide, _, boot_list'⟩
theorem isa_two : ∀ (u : U) (n n' : Str), u.isa = some [n, n'] → ∃ u1 u2 : U, u1.isa = some [n] ∧ u2.isa = some [n'] ∧ ∀ t, u.isaF t = (u1.isaF t || u2.isaF t) := by
  intro u n n' h
  cases u <;> first | cases h | skip
  · exact ⟨.isLst, .isTup, rfl, rfl, fun _ => rfl⟩
  · exact ⟨.isBool, .isStr, rfl, rfl, fun _ => rfl⟩

theorem isN_red (hK : X.K = R0.F.K) {u : U} {p : V → Bool} (ev : ∀ S H v d, WDen R0.F.K R0.F.FA S H v d → u.ev d = some (.bl (p v))) (h : tG R0 (E.un u a).muts (evE R0.call (.un u a)) (gE R0.F (.un u a)) σ H Q) :
    tG R0 a.muts (evE R0.call a) (gW R0.F) σ H (fun v H1 => Q (.bl (p v)) H1) := by
  obtain ⟨S, ρ, En, h⟩ := un_red hK h
  refine ⟨S, ρ, En, h.imp (fun d ρ1 h v S1 H1 N g => ?_) fun _ _ h => h⟩
  obtain ⟨S2, d2, r, l, hd, e, q⟩ := h v S1 H1 N g
  rw [hK] at hd
  rw [ev _ _ _ _ hd] at e
  cases e
  exact e_bl q
theorem none_ev {K : PySem.W.Frag} {FA : Nat → Option Addr} (S : Sh) (H : Hp) (v : V) (d : D) (h : WDen K FA S H v d) : U.isNone.ev d = some (.bl (decide (v = .non))) := by
  cases d with
  | non => rw [h.non]; rfl
  | bl b => rw [h.bl]; rfl
  | int i => rw [h.int]; rfl
  | str s => rw [h.str]; rfl
  | tup ds => obtain ⟨a, xs, rfl, _⟩ := h.tup; rfl
  | lst ds => obtain ⟨a, xs, rfl, _⟩ := h.lst; rfl
  | fn f => obtain ⟨a, rfl, _⟩ := h.fn; rfl
theorem notNone_ev {K : PySem.W.Frag} {FA : Nat → Option Addr} (S : Sh) (H : Hp) (v : V) (d : D) (h : WDen K FA S H v d) : U.notNone.ev d = some (.bl (!decide (v = .non))) := by
  cases d with
  | non => rw [h.non]; rfl
  | bl b => rw [h.bl]; rfl
  | int i => rw [h.int]; rfl
  | str s => rw [h.str]; rfl
  | tup ds => obtain ⟨a, xs, rfl, _⟩ := h.tup; rfl
  | lst ds => obtain ⟨a, xs, rfl, _⟩ := h.lst; rfl
  | fn f => obtain ⟨a, rfl, _⟩ := h.fn; rfl
/-- the test of a comparison, from its value -/
theorem cmp_pt {ms : List Nat} {f : EV.Env → R D} {t : TE} {op : CmpOp} {pos : Pos} (hK : X.K = R0.F.K) (hp : PT X (.Compare x [op] [y] pos) (tB t)) (red : ∀ σ H Q, tG R0 ms f (gW R0.F) σ H Q → t σ H Q) (bl : ∀ ρ d ρ', f ρ = .ok d ρ' → ∃ b, d = .bl b) :
    PT X (.Compare x [op] [y] pos) (tCv R0 ms fun ρ => (f ρ).bind fun d ρ => R.opt ρ d.truth) := hp.evImp fun σ H Q h => by
  obtain ⟨S, ρ, En, h⟩ := h
  refine red σ H _ ⟨S, ρ, En, ?_⟩
  have h := h.bind
  cases e : f ρ with
  | bad => rw [e] at h; exact h
  | exc z ρ' => rw [e] at h; exact h
  | ok d ρ' =>
    rw [e] at h
    obtain ⟨b, rfl⟩ := bl ρ d ρ' e
    intro v S' H' N g
    refine ⟨b, WDen.bl g, ?_⟩
    have h' : ∀ S' H', Nxt R0.F S H ms σ ρ S' H' ρ' → Q b H' := h
    exact h' S' H' N
theorem R.bind_ok {α β : Type} {r : R α} {f : α → EV.Env → R β} {b : β} {ρ' : EV.Env} (h : r.bind f = .ok b ρ') : ∃ a ρ, r = .ok a ρ ∧ f a ρ = .ok b ρ' := by
  cases r with
  | ok a ρ => exact ⟨a, ρ, rfl, h⟩
  | exc _ _ => cases h
  | bad => cases h
theorem R.opt_ok {α : Type} {o : Option α} {a : α} {ρ ρ' : EV.Env} (h : R.opt ρ o = .ok a ρ') : o = some a ∧ ρ = ρ' := by
  cases o with
  | none => cases h
  | some b => cases h; exact ⟨rfl, rfl⟩

theorem n_un (hX : XOk P R0 k X) {u : U} (hs : u.shape X.env.scope ast = some x) (ha : SE R0 X a x) (hw : a.w R0.F.own = true) : SE R0 X (.un u a) ast := by
  have pw := ha.peW hw
  unfold U.shape at hs
  cases hb : u.bname with
  | some n =>
    rw [hb] at hs
    simp only at hs
    split at hs
    · rename_i f p x' pos
      obtain ⟨hc, hx⟩ := ite_some hs
      cases hx
      simp only [Bool.and_eq_true, beq_iff_eq] at hc
      obtain ⟨⟨hf, hg⟩, hp⟩ := hc
      subst hf
      obtain ⟨g1, g2, g3⟩ := glB_of hg
      obtain ⟨hm, hcall⟩ := u_call hX u f hb
      refine pt_plain hX ?_ fun _ => rfl
      rcases hcall with ⟨id, hr, hbt⟩ | ⟨T, hr, hbt⟩
      · exact (pe_callB hr g1 (hX.nms _ hm) hbt (pa_cons pw pa_nil (starEach_cons hp)) g3 g2 (starEach_cons hp) rfl).evImp fun σ H Q h => un_red1 hX.hK h
      · exact (pe_callTy hr g1 (hX.nms _ hm) hbt (pa_cons pw pa_nil (starEach_cons hp)) g3 g2 (starEach_cons hp) rfl).evImp fun σ H Q h => un_red1 hX.hK h
    · cases hs
  | none =>
    rw [hb] at hs
    simp only at hs
    split at hs
    · rename_i t hi
      split at hs
      · rename_i f p x' y' p' pos
        obtain ⟨hc, hx⟩ := ite_some hs
        cases hx
        simp only [Bool.and_eq_true, beq_iff_eq] at hc
        obtain ⟨⟨⟨⟨hf, hg⟩, hy⟩, hgy⟩, hp⟩ := hc
        subst hf hy
        obtain ⟨g1, g2, g3⟩ := glB_of hg
        obtain ⟨k1, k2, k3⟩ := glB_of hgy
        obtain ⟨hm, m, hbm⟩ := isa_one u y' hi
        refine pt_plain hX ?_ fun _ => rfl
        refine (pe_callB (u_isa1 (R0 := R0) hi hbm) g1 (hX.nms _ (by decide)) boot_isa' (pa_cons pw (pa_cons (pe_bltn (v := .ty m) k1 (hX.nms _ hm) hbm rfl k3 k2) pa_nil rfl) (starEach_cons hp)) g3 g2 (starEach_cons hp) rfl).evImp fun σ H Q h => ?_
        obtain ⟨S, ρ, En, h⟩ := un_red hX.hK h
        exact ⟨S, ρ, En, h.imp (fun d ρ1 h v S1 H1 N g => ⟨v, rfl, h v S1 H1 N g⟩) fun _ _ h => h⟩
      · cases hs
    · rename_i t t' hi
      split at hs
      · rename_i f p x' y' p' z' p'' kk tp pos
        obtain ⟨hc, hx⟩ := ite_some hs
        cases hx
        simp only [Bool.and_eq_true, beq_iff_eq] at hc
        obtain ⟨⟨⟨⟨⟨⟨hf, hg⟩, hy⟩, hgy⟩, hz⟩, hgz⟩, hp⟩ := hc
        subst hf hy hz
        obtain ⟨g1, g2, g3⟩ := glB_of hg
        obtain ⟨k1, k2, k3⟩ := glB_of hgy
        obtain ⟨l1, l2, l3⟩ := glB_of hgz
        obtain ⟨u1, u2, e1, e2, hF⟩ := isa_two u y' z' hi
        obtain ⟨hm, m, hbm⟩ := isa_one u1 y' e1
        obtain ⟨hm', m', hbm'⟩ := isa_one u2 z' e2
        refine pt_plain hX ?_ fun _ => rfl
        refine (pe_callB (u_isa2 (R0 := R0) hi e1 e2 hbm hbm' hF) g1 (hX.nms _ (by decide)) boot_isa' (pa_cons pw (pa_cons (pe_tup (pa_cons (pe_bltn (v := .ty m) k1 (hX.nms _ hm) hbm rfl k3 k2) (pa_cons (pe_bltn (v := .ty m') l1 (hX.nms _ hm') hbm' rfl l3 l2) pa_nil rfl) rfl)) pa_nil rfl) (starEach_cons hp)) g3 g2 (starEach_cons hp) rfl).evImp fun σ H Q h => ?_
        obtain ⟨S, ρ, En, h⟩ := un_red hX.hK h
        refine ⟨S, ρ, En, h.imp (fun d ρ1 h v S1 H1 N g => ⟨by show 2 ≤ sizeLine; decide, fun p hp => ?_⟩) fun _ _ h => h⟩
        obtain ⟨S2, d2, r, l, hd, e, q⟩ := h v S1 H1 N g
        obtain ⟨t0, e3, q'⟩ := isa_ends hi e q
        exact ⟨v, p, rfl, upd_same, S2, d2, t0, hd.same (same_upd hp), e3, q' _ (same_upd hp)⟩
      · cases hs
    · split at hs
      · cases hs
        refine pt_plain hX ((pe_un u_neg pw).evImp fun σ H Q h => un_red hX.hK h) fun _ => rfl
      · cases hs
        refine ⟨(pe_cmp (pc_isN pw) rfl).evImp fun σ H Q h => isN_red (Q := Q) hX.hK none_ev h, fun _ => ?_⟩
        refine cmp_pt hX.hK (pt_cmp (pc_isN pw) rfl) (fun σ H Q h => isN_red hX.hK none_ev (h.got fun _ _ _ _ q => ?_)) fun ρ d ρ' e => ?_
        · unfold gE at q
          rw [if_neg (show ¬ (E.un U.isNone a).fresh = true from Bool.false_ne_true), if_pos (show E.flags R0.F.own (E.un U.isNone a) = [] from rfl)] at q
          exact .inl q
        · obtain ⟨d1, ρ1, _, e2⟩ := R.bind_ok (show (evE R0.call a ρ).bind (fun d ρ => R.opt ρ (U.isNone.ev d)) = _ from e)
          obtain ⟨e3, _⟩ := R.opt_ok e2
          exact ⟨_, (Option.some.inj (show some (D.bl _) = some d from e3)).symm⟩
      · cases hs
        refine ⟨(pe_cmp (pc_notN pw) rfl).evImp fun σ H Q h => isN_red (Q := Q) hX.hK notNone_ev h, fun _ => ?_⟩
        refine cmp_pt hX.hK (pt_cmp (pc_notN pw) rfl) (fun σ H Q h => isN_red hX.hK notNone_ev (h.got fun _ _ _ _ q => ?_)) fun ρ d ρ' e => ?_
        · unfold gE at q
          rw [if_neg (show ¬ (E.un U.notNone a).fresh = true from Bool.false_ne_true), if_pos (show E.flags R0.F.own (E.un U.notNone a) = [] from rfl)] at q
          exact .inl q
        · obtain ⟨d1, ρ1, _, e2⟩ := R.bind_ok (show (evE R0.call a ρ).bind (fun d ρ => R.opt ρ (U.notNone.ev d)) = _ from e)
          obtain ⟨e3, _⟩ := R.opt_ok e2
          exact ⟨_, (Option.some.inj (show some (D.bl _) = some d from e3)).symm⟩
      · cases hs
end
end EV
end
section
set_option autoImplicit false
/-! Ev8: nodes of two operands, slices, tests. -/
namespace EV
open PySem PySem.Spec PyProof.Rows L2

/-! ### step by step -/
def tGat (R0 : Rd0) (ms : List Nat) (f : EV.Env → R D) (got : Hp → Sh → Hp → St → V → D → Prop) (σ : St) (H : Hp) (Q : VK) (S : Sh) (ρ : EV.Env) : Prop :=
  EnvOk R0.F S H σ ρ ∧ KR (f ρ) (fun d ρ' => ∀ v S' H', Nxt R0.F S H ms σ ρ S' H' ρ' → got H S' H' σ v d → Q v H') (R0.ex ms S H σ ρ)
/-- what an operand is: shared, or an owned list -/
def gA (F : Fr0) (e : E) : Hp → Sh → Hp → St → V → D → Prop := if e.st F.own = true then gSt F else gW F

section
variable {R0 : Rd0} {ms m1 : List Nat} {σ : St} {H : Hp} {Q : VK} {S : Sh} {ρ : EV.Env} {f : EV.Env → R D} {g : D → EV.Env → R D} {got got1 : Hp → Sh → Hp → St → V → D → Prop}
theorem tGat.tG (h : tGat R0 ms f got σ H Q S ρ) : tG R0 ms f got σ H Q := ⟨S, ρ, h⟩
theorem tGat.step {P : VK} (hm : ∀ j ∈ m1, j ∈ ms) (h : tGat R0 ms (fun ρ => (f ρ).bind g) got σ H Q S ρ)
    (k : ∀ d ρ1 x S1 H1, Nxt R0.F S H m1 σ ρ S1 H1 ρ1 → got1 H S1 H1 σ x d → tGat R0 ms (g d) (fun _ => got H) σ H1 Q S1 ρ1 → P x H1) : tGat R0 m1 f got1 σ H P S ρ := by
  obtain ⟨En, h⟩ := h
  refine ⟨En, h.bind.imp (fun d ρ1 h x S1 H1 N q => k d ρ1 x S1 H1 N q ⟨N.ok, ?_⟩) fun x ρ1 h => h.less hm⟩
  exact h.imp (fun r ρ2 h v S2 H2 N2 q2 => h v S2 H2 ((N.mono hm).trans N2) q2) fun x ρ2 h => h.back (N.mono hm)
theorem tGat.opt {o : Option D} (h : tGat R0 ms (fun ρ => R.opt ρ o) got σ H Q S ρ) : EnvOk R0.F S H σ ρ ∧ ∃ r, o = some r ∧ ∀ v S' H', Nxt R0.F S H ms σ ρ S' H' ρ → got H S' H' σ v r → Q v H' := by
  obtain ⟨En, h⟩ := h
  obtain ⟨r, e, q⟩ := KR.opt h
  exact ⟨En, r, e, q⟩
theorem tGat.ok {r : D} (h : tGat R0 ms (fun ρ => .ok r ρ) got σ H Q S ρ) : EnvOk R0.F S H σ ρ ∧ ∀ v S' H', Nxt R0.F S H ms σ ρ S' H' ρ → got H S' H' σ v r → Q v H' := h
theorem tGat.ends {e : E} {fr : Bool} {H0 : Hp} {r : D} (live : ∀ b o, H0 b = some o → ∃ o', H b = some o') (h1 : e.fresh = fr) (h2 : e.flags R0.F.own = []) (En : EnvOk R0.F S H σ ρ)
    (q : ∀ v S' H', Nxt R0.F S H ms σ ρ S' H' ρ → gE R0.F e H0 S' H' σ v r → Q v H') : Ends1 R0.F.K R0.F.FA fr S H r Q := fun v S2 H2 z same gr =>
  q v S2 H2 (Nxt.of_same En z same) (ge_of h1 h2 live gr)
end
section
variable {R0 : Rd0} {X : Cx} {e a c : E} {ast x y : Expr} {σ : St} {H H' : Hp} {S S' : Sh} {v : V} {d : D}
theorem SE.peA (h : SE R0 X e ast) (he : e.w R0.F.own = true) : PE X ast (tG R0 e.muts (evE R0.call e) (gA R0.F e)) := by
  unfold gA
  by_cases c : e.st R0.F.own = true
  · rw [if_pos c]
    exact h.peSt c
  · rw [if_neg c]
    exact h.peW he
theorem gA.w {H0 : Hp} (h : gA R0.F e H0 S H σ v d) : WDen R0.F.K R0.F.FA S H v d := by
  unfold gA at h
  split at h
  · exact .inl h
  · exact h
/-- an operand outlives what is done after it -/
theorem gA.step {H0 : Hp} {ms : List Nat} (h : gA R0.F e H0 S H σ v d) (q : e.st R0.F.own = true ∨ ms = []) (N : Stp S H ms σ S' H') : WDen R0.F.K R0.F.FA S' H' v d := by
  unfold gA at h
  split at h
  · exact .inl (Den.ext N.ext h)
  · rename_i hn
    rcases q with q | rfl
    · exact absurd q hn
    · rcases h with h | h
      · exact .inl (h.ext N.ext)
      · exact .inr (h.step N.ext fun a _ o e => N.same _ _ e)
end

section
variable {P : Pg} {R0 : Rd0} {k : Nat} {X : Cx} {a c l h e : E} {ast x y z : Expr} {σ : St} {H : Hp} {Q : VK}

theorem memL {j : Nat} {as bs : List Nat} (h : j ∈ as) : j ∈ as ++ bs := List.mem_append_left _ h
theorem memR {j : Nat} {as bs : List Nat} (h : j ∈ bs) : j ∈ as ++ bs := List.mem_append_right _ h

theorem bin_red (hK : X.K = R0.F.K) {b : B} (hq : a.st R0.F.own = true ∨ c.muts = []) (h : tG R0 (E.bin b a c).muts (evE R0.call (.bin b a c)) (gE R0.F (.bin b a c)) σ H Q) :
    tG R0 a.muts (evE R0.call a) (gA R0.F a) σ H fun x H1 => (∃ S d, WDen X.K R0.F.FA S H1 x d ∧ b.pre d = true) ∧ tG R0 c.muts (evE R0.call c) (gW R0.F) σ H1 fun y H2 => RB X.K R0.F.FA b x y H2 Q := by
  obtain ⟨S, ρ, h⟩ := h
  refine tGat.tG (S := S) (ρ := ρ) (tGat.step (ms := a.muts ++ c.muts) (fun j => memL) h fun d ρ1 x S1 H1 N1 g1 h1 => ?_)
  rw [hK]
  by_cases hp : b.pre d = true
  · simp only [if_pos hp] at h1
    refine ⟨⟨S1, d, g1.w, hp⟩, tGat.tG (tGat.step (fun j => memR) h1 fun e ρ2 y S2 H2 N2 g2 h2 => ?_)⟩
    obtain ⟨En, r, e1, q⟩ := h2.opt
    exact ⟨S2, d, e, r, En.live, g1.step hq N2.stp, g2, e1, tGat.ends (fun b o e => by
      obtain ⟨o', e'⟩ := N1.stp.ext.live b o e
      exact N2.stp.ext.live b o' e') rfl rfl En q⟩
  · simp only [if_neg hp] at h1
    exact h1.2.elim
theorem bin_op (hK : X.K = R0.F.K) {b : B} (hq : a.st R0.F.own = true ∨ c.muts = []) (h : tG R0 (E.bin b a c).muts (evE R0.call (.bin b a c)) (gE R0.F (.bin b a c)) σ H Q) :
    tOp (RB X.K R0.F.FA b) (tG R0 a.muts (evE R0.call a) (gA R0.F a)) (tG R0 c.muts (evE R0.call c) (gW R0.F)) σ H Q := by
  obtain ⟨S, ρ, En, h⟩ := bin_red hK hq h
  exact ⟨S, ρ, En, h.imp (fun d ρ1 h v S1 H1 N g => (h v S1 H1 N g).2) fun _ _ h => h⟩
theorem bin_op1 (hK : X.K = R0.F.K) {b : B} (hq : a.st R0.F.own = true ∨ c.muts = []) (h : tG R0 (E.bin b a c).muts (evE R0.call (.bin b a c)) (gE R0.F (.bin b a c)) σ H Q) :
    tCB (RB2 X.K R0.F.FA b) (tCons (tG R0 a.muts (evE R0.call a) (gA R0.F a)) (tCons (tG R0 c.muts (evE R0.call c) (gW R0.F)) tNil)) σ H Q := by
  obtain ⟨S, ρ, En, h⟩ := bin_red hK hq h
  refine ⟨S, ρ, En, h.imp (fun d ρ1 h v S1 H1 N g => ?_) fun _ _ h => h⟩
  obtain ⟨S', ρ', En', h'⟩ := (h v S1 H1 N g).2
  exact ⟨S', ρ', En', h'.imp (fun d ρ1 h y S1 H1 N g => ⟨v, y, rfl, h y S1 H1 N g⟩) fun _ _ h => h⟩
theorem pre_str {b : B} (hb : b = .split ∨ b = .join) {K : PySem.W.Frag} {FA : Nat → Option Addr} {S : Sh} {v : V} {d : D} (h : WDen K FA S H v d) (e : b.pre d = true) : ∃ s, v = .str s := by
  rcases hb with rfl | rfl <;> (cases d <;> first | exact ⟨_, h.str⟩ | cases e)
theorem bin_m1 (hK : X.K = R0.F.K) {b : B} (hb : b = .split ∨ b = .join) (hq : a.st R0.F.own = true ∨ c.muts = []) (h : tG R0 (E.bin b a c).muts (evE R0.call (.bin b a c)) (gE R0.F (.bin b a c)) σ H Q) :
    tM1 (fun x ys H Q => ∃ y, ys = [y] ∧ RB X.K R0.F.FA b x y H Q) (tG R0 a.muts (evE R0.call a) (gA R0.F a)) (tG R0 c.muts (evE R0.call c) (gW R0.F)) σ H Q := by
  obtain ⟨S, ρ, En, h⟩ := bin_red hK hq h
  refine ⟨S, ρ, En, h.imp (fun d ρ1 h v S1 H1 N g => ?_) fun _ _ h => h⟩
  obtain ⟨⟨S2, d2, w2, p2⟩, h⟩ := h v S1 H1 N g
  refine ⟨pre_str hb w2 p2, ?_⟩
  obtain ⟨S', ρ', En', h'⟩ := h
  exact ⟨S', ρ', En', h'.imp (fun d ρ1 h y S1 H1 N g => ⟨y, rfl, h y S1 H1 N g⟩) fun _ _ h => h⟩

/-- a test whose value is a bool -/
theorem pt_test {ms : List Nat} {f : EV.Env → R D} {t : TE} (hp : PT X ast (tTest t)) (red : ∀ σ H Q, tG R0 ms f (gE R0.F e) σ H Q → t σ H Q) (hg : gE R0.F e = gSt R0.F) (bl : ∀ ρ d ρ', f ρ = .ok d ρ' → ∃ b, d = .bl b) :
    PT X ast (tCv R0 ms fun ρ => (f ρ).bind fun d ρ => R.opt ρ d.truth) := hp.evImp fun σ H Q h => by
  obtain ⟨S, ρ, En, h⟩ := h
  refine red σ H _ ⟨S, ρ, En, ?_⟩
  rw [hg]
  have h := h.bind
  cases e : f ρ with
  | bad => rw [e] at h; exact h
  | exc z ρ' => rw [e] at h; exact h
  | ok d ρ' =>
    rw [e] at h
    obtain ⟨b, rfl⟩ := bl ρ d ρ' e
    intro v S' H' N g
    refine ⟨b, den_bl g, ?_⟩
    have h' : ∀ S' H', Nxt R0.F S H ms σ ρ S' H' ρ' → Q b H' := h
    exact h' S' H' N
theorem cmp_bool {c' : Cm} {call : Nat → List D → CR} (ρ : EV.Env) (d : D) (ρ' : EV.Env) (h : evE call (.bin (.cmp c') a c) ρ = .ok d ρ') : ∃ b, d = .bl b := by
  obtain ⟨d1, ρ1, _, h⟩ := R.bind_ok (show (evE call a ρ).bind (fun d ρ => if (B.cmp c').pre d then (evE call c ρ).bind fun e ρ => R.opt ρ ((B.cmp c').ev d e) else .bad) = _ from h)
  rw [if_pos (show (B.cmp c').pre d1 = true by cases d1 <;> rfl)] at h
  obtain ⟨d2, ρ2, _, h⟩ := R.bind_ok h
  obtain ⟨h, _⟩ := R.opt_ok h
  obtain ⟨b, _, rfl⟩ := opt_map (show (c'.ev d1 d2).map D.bl = some d from h)
  exact ⟨b, rfl⟩
theorem c_rb (hu : X.A.units + 65 < cLine) {FA : Nat → Option Addr} (c : Cm) : OpR X (compareOp c.op) (RB X.K FA (.cmp c)) := by
  refine OpR.imp (c_all (FA := FA) hu c) fun x y H Q h => ?_
  obtain ⟨S, d, e, r, l, h1, h2, ev, q⟩ := h
  obtain ⟨b, e1, rfl⟩ := opt_map (show (c.ev d e).map D.bl = some r from ev)
  exact ⟨S, d, e, b, h1, h2, e1, e_bl q⟩
theorem hu65 {A : Around} (hr : Room k A) : A.units + 65 < cLine := by
  have := hr.un
  unfold cLine at *
  omega
theorem boot_min' : bootBuiltins "min" = some (.builtin "min") := by decide +kernel
theorem boot_max' : bootBuiltins "max" = some (.builtin "max") := by decide +kernel

theorem n_bin (hX : XOk P R0 k X) {b : B} (hs : b.shape X.env.scope ast = some (x, y)) (ha : SE R0 X a x) (hc : SE R0 X c y) (hwa : a.w R0.F.own = true) (hwc : c.w R0.F.own = true) (hq : a.st R0.F.own = true ∨ c.muts = []) (hu : X.A.units + 65 < cLine) : SE R0 X (.bin b a c) ast := by
  have pa := ha.peA hwa
  have pc := hc.peW hwc
  unfold B.shape at hs
  cases ho : b.opr with
  | some o =>
    rw [ho] at hs
    simp only at hs
    split at hs
    · rename_i x' o' y' pos
      obtain ⟨hc', hx⟩ := ite_some hs
      cases hx
      subst hc'
      refine pt_plain hX ?_ fun _ => rfl
      have op : OpR X (binaryOp o) (RB X.K R0.F.FA b) := by
        cases b <;> first | cases ho | skip
        · exact b_add
        · exact b_sub
        · exact b_mul
        · exact b_fdiv
        · exact b_mod
        · exact b_pow
      exact (pe_op op pa pc).evImp fun σ H Q h => bin_op hX.hK hq h
    · cases hs
  | none =>
    rw [ho] at hs
    simp only at hs
    split at hs
    · rename_i c' x' o y' pos
      obtain ⟨⟨h1, h2⟩, hx⟩ := ite_some hs
      cases hx
      subst h1
      refine ⟨(pe_cmpR (c_rb hu c') pa pc (nomark' h2)).evImp fun σ H Q h => bin_op hX.hK hq h, fun _ => ?_⟩
      exact pt_test (e := .bin (.cmp c') a c) (pt_cmpR (c_rb hu c') pa pc (nomark' h2)) (fun σ H Q h => bin_op hX.hK hq h) (by unfold gE; rw [if_neg (show ¬ (E.bin (.cmp c') a c).fresh = true from Bool.false_ne_true), if_pos (show (E.bin (.cmp c') a c).flags R0.F.own = [] from rfl)]) fun ρ d ρ' h => cmp_bool ρ d ρ' h
    · rename_i x' y' pos
      obtain ⟨h1, hx⟩ := ite_some hs
      cases hx
      exact pt_plain hX ((pe_ix b_idx pa pc (plainIx h1)).evImp fun σ H Q h => bin_op hX.hK hq h) fun _ => rfl
    · rename_i x' n ap y' cp
      obtain ⟨h1, hx⟩ := ite_some hs
      cases hx
      simp only [Bool.and_eq_true] at h1
      obtain ⟨⟨⟨hn, hl⟩, hb⟩, hp⟩ := h1
      have hn := eq_of_beq hn
      subst hn
      exact pt_plain hX ((pe_m1 F.slot_str_split F.type_str_split b_split pa pc (starEach_cons hp) (base' hb) hl).evImp fun σ H Q h => bin_m1 hX.hK (.inl rfl) hq h) fun _ => rfl
    · rename_i x' n ap y' cp
      obtain ⟨h1, hx⟩ := ite_some hs
      cases hx
      simp only [Bool.and_eq_true] at h1
      obtain ⟨⟨⟨hn, hl⟩, hb⟩, hp⟩ := h1
      have hn := eq_of_beq hn
      subst hn
      exact pt_plain hX ((pe_m1 F.slot_str_join F.type_str_join b_join pa pc (starEach_cons hp) (base' hb) hl).evImp fun σ H Q h => bin_m1 hX.hK (.inr rfl) hq h) fun _ => rfl
    · rename_i f p x' y' pos
      obtain ⟨h1, hx⟩ := ite_some hs
      cases hx
      simp only [Bool.and_eq_true] at h1
      obtain ⟨⟨⟨hf, hg⟩, hp⟩, hp2⟩ := h1
      have hf := eq_of_beq hf
      subst hf
      obtain ⟨g1, g2, g3⟩ := glB_of hg
      exact pt_plain hX ((pe_callB (b_min2 hX.calm) g1 (hX.nms _ (by decide)) boot_min' (pa_cons pa (pa_cons pc pa_nil (starEach_cons hp2)) (starEach_cons hp)) g3 g2 (starEach_cons hp) (back_cons hp2 back_nil)).evImp fun σ H Q h => bin_op1 hX.hK hq h) fun _ => rfl
    · rename_i f p x' y' pos
      obtain ⟨h1, hx⟩ := ite_some hs
      cases hx
      simp only [Bool.and_eq_true] at h1
      obtain ⟨⟨⟨hf, hg⟩, hp⟩, hp2⟩ := h1
      have hf := eq_of_beq hf
      subst hf
      obtain ⟨g1, g2, g3⟩ := glB_of hg
      exact pt_plain hX ((pe_callB (b_max2 hX.calm) g1 (hX.nms _ (by decide)) boot_max' (pa_cons pa (pa_cons pc pa_nil (starEach_cons hp2)) (starEach_cons hp)) g3 g2 (starEach_cons hp) (back_cons hp2 back_nil)).evImp fun σ H Q h => bin_op1 hX.hK hq h) fun _ => rfl
    · cases hs
end
end EV
end
section
set_option autoImplicit false
/-! Ev9: slices, tuples, lists, argument lists, and, or, not, if, chains. -/
namespace EV
open PySem PySem.Spec PyProof.Rows L2

section
variable {P : Pg} {R0 : Rd0} {k : Nat} {X : Cx} {a b c l h e : E} {es : Es} {ast x y z : Expr} {xs : List Expr} {σ : St} {H : Hp} {Q : VK} {pos : Pos}

theorem gE_plain {F : Fr0} (h1 : e.fresh = false) (h2 : e.flags F.own = []) : gE F e = gSt F := by
  unfold gE
  rw [if_neg (by rw [h1]; exact Bool.false_ne_true), if_pos h2]
theorem gE_fl {F : Fr0} (h1 : e.fresh = false) (h2 : e.isVar = false) {H0 : Hp} {S : Sh} {v : V} {d : D} (g : gFl F (e.flags F.own) H0 S H σ v d) : gE F e H0 S H σ v d := by
  unfold gE
  rw [if_neg (by rw [h1]; exact Bool.false_ne_true)]
  by_cases c : e.flags F.own = []
  · rw [if_pos c]
    rw [c] at g
    unfold gFl at g
    rw [Flg.nil] at g
    exact g
  · rw [if_neg c, if_neg (by rw [h2]; exact Bool.false_ne_true)]
    exact g
theorem w_of_st {own : List Nat} (h : e.st own = true) : e.w own = true := by
  unfold E.w
  rw [h]
  rfl

/-! ### slices -/
theorem toInt_some {d : D} {i : Int} (h : d.toInt = some i) : d = .int i := by
  cases d with
  | int j => rw [Option.some.inj (show some j = some i from h)]
  | _ => cases (show (none : Option Int) = some i from h)
theorem n_slL (hX : XOk P R0 k X) {p2 : Pos} (ha : SE R0 X a x) (hl : SE R0 X l y) (wa : a.w R0.F.own = true) (sl : l.st R0.F.own = true) (hq : a.st R0.F.own = true ∨ l.muts = []) : SE R0 X (.slL a l) (.Subscript x (.Slice (some y) none none p2) pos) := by
  refine pt_plain hX ((pe_slice (s_all (FA := R0.F.FA)) (ha.peA wa) (po_some (hl.peSt sl)) po_none).evImp fun σ H Q h => ?_) fun _ => rfl
  obtain ⟨S, ρ, h⟩ := h
  refine tGat.tG (S := S) (ρ := ρ) (tGat.step (ms := a.muts ++ l.muts) (fun j => memL) h fun d ρ1 x S1 H1 N1 g1 h1 => ?_)
  refine tGat.tG (tGat.step (fun j => memR) h1 fun d2 ρ2 y S2 H2 N2 g2 h2 => ?_)
  obtain ⟨En, r, e1, q⟩ := h2.opt
  obtain ⟨i, e2, e3⟩ := opt_bind e1
  have e2 := toInt_some e2
  subst e2
  refine ⟨i, den_int g2, S2, d, r, En.live, ?_, e3, ?_⟩
  · rw [hX.hK]; exact g1.step hq N2.stp
  · rw [hX.hK]
    exact tGat.ends (fun b o e => by
      obtain ⟨o', e'⟩ := N1.stp.ext.live b o e
      exact N2.stp.ext.live b o' e') rfl rfl En q
theorem n_slH (hX : XOk P R0 k X) {p2 : Pos} (ha : SE R0 X a x) (hl : SE R0 X l y) (wa : a.w R0.F.own = true) (sl : l.st R0.F.own = true) (hq : a.st R0.F.own = true ∨ l.muts = []) : SE R0 X (.slH a l) (.Subscript x (.Slice none (some y) none p2) pos) := by
  refine pt_plain hX ((pe_slice (s_all (FA := R0.F.FA)) (ha.peA wa) po_none (po_some (hl.peSt sl))).evImp fun σ H Q h => ?_) fun _ => rfl
  obtain ⟨S, ρ, h⟩ := h
  refine tGat.tG (S := S) (ρ := ρ) (tGat.step (ms := a.muts ++ l.muts) (fun j => memL) h fun d ρ1 x S1 H1 N1 g1 h1 => ?_)
  refine tGat.tG (tGat.step (fun j => memR) h1 fun d2 ρ2 y S2 H2 N2 g2 h2 => ?_)
  obtain ⟨En, r, e1, q⟩ := h2.opt
  obtain ⟨i, e2, e3⟩ := opt_bind e1
  have e2 := toInt_some e2
  subst e2
  refine ⟨i, den_int g2, S2, d, r, En.live, ?_, e3, ?_⟩
  · rw [hX.hK]; exact g1.step hq N2.stp
  · rw [hX.hK]
    exact tGat.ends (fun b o e => by
      obtain ⟨o', e'⟩ := N1.stp.ext.live b o e
      exact N2.stp.ext.live b o' e') rfl rfl En q
theorem n_slLH (hX : XOk P R0 k X) {p2 : Pos} (ha : SE R0 X a x) (hl : SE R0 X l y) (hh : SE R0 X h z) (wa : a.w R0.F.own = true) (sl : l.st R0.F.own = true) (sh : h.st R0.F.own = true) (hq : a.st R0.F.own = true ∨ (l.muts = [] ∧ h.muts = [])) : SE R0 X (.slLH a l h) (.Subscript x (.Slice (some y) (some z) none p2) pos) := by
  refine pt_plain hX ((pe_slice (s_all (FA := R0.F.FA)) (ha.peA wa) (po_some (hl.peSt sl)) (po_some (hh.peSt sh))).evImp fun σ H Q h => ?_) fun _ => rfl
  obtain ⟨S, ρ, h⟩ := h
  refine tGat.tG (S := S) (ρ := ρ) (tGat.step (ms := a.muts ++ (l.muts ++ E.muts _)) (fun j => memL) h fun d ρ1 x S1 H1 N1 g1 h1 => ?_)
  refine tGat.tG (tGat.step (fun j m => memR (memL m)) h1 fun d2 ρ2 y S2 H2 N2 g2 h2 => ?_)
  have g1' := g1.step (hq.imp (fun z => z) fun z => z.1) N2.stp
  cases e2 : d2.toInt with
  | none =>
    rw [e2] at h2
    exact h2.2.elim
  | some i =>
    rw [e2] at h2
    have e2 := toInt_some e2
    subst e2
    refine ⟨i, den_int g2, ?_⟩
    refine tGat.tG (tGat.step (fun j m => memR (memR m)) h2 fun d3 ρ3 z S3 H3 N3 g3 h3 => ?_)
    obtain ⟨En, r, e1, q⟩ := h3.opt
    obtain ⟨j, e4, e5⟩ := opt_bind e1
    have e4 := toInt_some e4
    subst e4
    refine ⟨j, den_int g3, S3, d, r, En.live, ?_, e5, ?_⟩
    · rw [hX.hK]
      refine gA.step (H' := H3) ?_ (hq.imp (fun z => z) fun z => z.2) N3.stp (S := S2) (H := H2) (e := a) (H0 := H2)
      unfold gA
      split
      · rename_i hs
        unfold gA at g1
        rw [if_pos hs] at g1
        exact Den.ext N2.stp.ext g1
      · exact g1'
    · rw [hX.hK]
      exact tGat.ends (fun b o e => by
        obtain ⟨o', e'⟩ := N1.stp.ext.live b o e
        obtain ⟨o', e'⟩ := N2.stp.ext.live b o' e'
        exact N3.stp.ext.live b o' e') rfl rfl En q

/-! ### tuples, lists, argument lists -/
/-- an argument list and its texts -/
structure SEs (R0 : Rd0) (X : Cx) (es : Es) (xs : List Expr) : Prop where
  pa : PA X xs (tGs R0 es.muts (evEs R0.call es) (es.flags R0.F.own))
  back : ∀ pos, (backTo pos (starEach xs X.env)).any (·.1) = false
  cons : ∀ x r, xs = x :: r → plainA x = true ∧ ∀ pos, (backTo pos (starEach r X.env)).any (·.1) = false
  nil : xs = [] → es = .nil
theorem ns_nil : SEs R0 X .nil [] := by
  refine ⟨pa_nil.evImp fun σ H Q h => ?_, fun _ => rfl, (fun _ _ e => nomatch e), fun _ => rfl⟩
  obtain ⟨S, ρ, En, h⟩ := h
  have h' : ∀ vs S' H', Nxt R0.F S H [] σ ρ S' H' ρ → DenAll R0.F.K R0.F.FA (Flg S' [] σ) H' vs [] → Q vs H' := h
  exact h' [] S H (Nxt.refl En) .nil
theorem ns_cons (hp : plainA x = true) (ha : SE R0 X a x) (hs : SEs R0 X es xs) (hq : a.st R0.F.own = true ∨ es.muts = []) : SEs R0 X (.cons a es) (x :: xs) := by
  refine ⟨(pa_cons ha.peFl hs.pa (starEach_cons hp)).evImp fun σ H Q h => ?_, fun pos => back_cons hp (hs.back pos), fun x r e => by cases e; exact ⟨hp, hs.back⟩, fun e => nomatch e⟩
  obtain ⟨S, ρ, En, h⟩ := h
  have h' : KR ((evE R0.call a ρ).bind fun d ρ => (evEs R0.call es ρ).bind fun ds ρ => .ok (d :: ds) ρ) _ _ := h
  refine ⟨S, ρ, En, h'.bind.imp (fun d ρ1 h1 v S1 H1 N1 g1 => ?_) fun x ρ1 h => h.less fun j => memL⟩
  refine ⟨S1, ρ1, N1.ok, h1.bind.imp (fun ds ρ2 h2 vs S2 H2 N2 g2 => ?_) fun x ρ2 h => (h.back (N1.mono fun j => memL)).less fun j => memR⟩
  refine h2 (v :: vs) S2 H2 ((N1.mono fun j => memL).trans (N2.mono fun j => memR)) (.cons ?_ (g2.more (Flg.mono fun j => memR)))
  rcases hq with hq | hq
  · have hq := List.isEmpty_iff.mp hq
    have g1' : Den R0.F.K R0.F.FA (Flg S1 (a.flags R0.F.own) σ) H1 v d := g1
    rw [hq, Flg.nil] at g1'
    exact (g1'.ext N2.stp.ext).more fun _ h => .inl h
  · rw [hq] at N2
    refine Den.more (fun b hb => ?_) (Den.same N2.stp.same g1)
    rcases hb with hb | ⟨j, hj, e⟩
    · exact .inl (N2.stp.ext.sub b hb)
    · exact .inr ⟨j, memL hj, e⟩
theorem n_tup (hX : XOk P R0 k X) {x1} (hs : SEs R0 X es xs) : SE R0 X (.tup es) (.Tuple xs x1 pos) := by
  refine pt_plain hX ((pe_tup hs.pa).evImp fun σ H Q h => ?_) fun _ => rfl
  obtain ⟨S, ρ, En, h⟩ := h
  have h' : KR ((evEs R0.call es ρ).bind fun ds ρ => if ds.length ≤ 1000 then .ok (D.tup ds) ρ else .bad) _ _ := h
  refine ⟨S, ρ, En, h'.bind.imp (fun ds ρ1 h vs S1 H1 N g => ?_) fun _ _ h => h⟩
  split at h
  · rename_i hl
    refine ⟨by rw [g.length]; exact Nat.le_of_lt (small1000 hl), fun p hp => ?_⟩
    have h2 : ∀ v S' H', Nxt R0.F S H es.muts σ ρ S' H' ρ1 → gE R0.F (.tup es) H S' H' σ v (.tup ds) → Q v H' := h
    exact h2 _ S1 _ (N.trans (Nxt.alloc N.ok hp)) (gE_fl rfl rfl (.tup (SqT.of upd_same) (g.same (same_upd hp))))
  · exact h.elim
theorem n_lst (hX : XOk P R0 k X) (hs : SEs R0 X es xs) (hf : es.flags R0.F.own = []) : SE R0 X (.lst es) (.List xs pos) := by
  refine pt_plain hX ((pe_lst hs.pa).evImp fun σ H Q h => ?_) fun _ => rfl
  obtain ⟨S, ρ, En, h⟩ := h
  have h' : KR ((evEs R0.call es ρ).bind fun ds ρ => if ds.length ≤ 1000 then .ok (D.lst ds) ρ else .bad) _ _ := h
  refine ⟨S, ρ, En, h'.bind.imp (fun ds ρ1 h vs S1 H1 N g => ?_) fun _ _ h => h⟩
  split at h
  · rename_i hl
    refine ⟨by rw [g.length]; exact Nat.le_of_lt (small1000 hl), fun p hp => ?_⟩
    have h2 : ∀ v S' H', Nxt R0.F S H es.muts σ ρ S' H' ρ1 → gE R0.F (.lst es) H S' H' σ v (.lst ds) → Q v H' := h
    rw [hf, Flg.nil] at g
    refine h2 _ S1 _ (N.trans (Nxt.alloc N.ok hp)) ?_
    rw [ge_new rfl]
    refine .inl ⟨⟨p, vs, ds, rfl, fun hs => ?_, upd_same, rfl, g.same (same_upd hp)⟩, fun a e => ?_⟩
    · obtain ⟨o, e⟩ := N.ok.live p hs
      rw [hp] at e; cases e
    · cases e
      cases q : H p with
      | none => rfl
      | some o =>
        obtain ⟨o', e'⟩ := N.stp.ext.live p o q
        rw [hp] at e'; cases e'
  · exact h.elim

/-! ### tests -/
theorem tCv.mono {m1 ms : List Nat} (hm : ∀ j ∈ m1, j ∈ ms) {f : EV.Env → R Bool} {Q : Bool → Hp → Prop} (h : tCv R0 ms f σ H Q) : tCv R0 m1 f σ H Q := by
  obtain ⟨S, ρ, En, h⟩ := h
  exact ⟨S, ρ, En, h.imp (fun d ρ' h S' H' N => h S' H' (N.mono hm)) fun x ρ' h => h.less hm⟩
theorem tCv.step {m1 ms : List Nat} (hm : ∀ j ∈ m1, j ∈ ms) {f : EV.Env → R Bool} {g : Bool → EV.Env → R Bool} {Q P : Bool → Hp → Prop} (h : tCv R0 ms (fun ρ => (f ρ).bind g) σ H Q)
    (k : ∀ b H1, tCv R0 ms (g b) σ H1 Q → P b H1) : tCv R0 m1 f σ H P := by
  obtain ⟨S, ρ, En, h⟩ := h
  refine ⟨S, ρ, En, h.bind.imp (fun b ρ1 h S1 H1 N => k b H1 ⟨S1, ρ1, N.ok, ?_⟩) fun x ρ1 h => h.less hm⟩
  exact h.imp (fun r ρ2 h S2 H2 N2 => h S2 H2 ((N.mono hm).trans N2)) fun x ρ2 h => h.back (N.mono hm)
theorem tCv.ok {ms : List Nat} {b : Bool} {Q : Bool → Hp → Prop} (h : tCv R0 ms (fun ρ => .ok b ρ) σ H Q) : Q b H := by
  obtain ⟨S, ρ, En, h⟩ := h
  have h' : ∀ S' H', Nxt R0.F S H ms σ ρ S' H' ρ → Q b H' := h
  exact h' S H (Nxt.refl En)
theorem tCv.eq {ms : List Nat} {f g : EV.Env → R Bool} (e : f = g) {Q : Bool → Hp → Prop} (h : tCv R0 ms f σ H Q) : tCv R0 ms g σ H Q := e ▸ h
theorem tG.eq {ms : List Nat} {f g : EV.Env → R D} {got : Hp → Sh → Hp → St → V → D → Prop} (e : f = g) (h : tG R0 ms f got σ H Q) : tG R0 ms g got σ H Q := e ▸ h
variable {call : Nat → List D → CR}
theorem evC_and : evC call (.and_ a b) = fun ρ => (evC call a ρ).bind fun t ρ => if t then evC call b ρ else .ok false ρ := by
  funext ρ
  show ((evE call a ρ).bind fun d ρ => match d.truth with | some true => evE call b ρ | some false => .ok d ρ | none => .bad).bind _ = ((evE call a ρ).bind _).bind _
  cases evE call a ρ with
  | bad => rfl
  | exc _ _ => rfl
  | ok d ρ1 =>
    show (match d.truth with | some true => evE call b ρ1 | some false => .ok d ρ1 | none => .bad : R D).bind (fun d ρ => R.opt ρ d.truth) = (R.opt ρ1 d.truth).bind _
    cases e : d.truth with
    | none => rfl
    | some t =>
      cases t with
      | true => rfl
      | false =>
        show R.opt ρ1 d.truth = _
        rw [e]
        rfl
theorem evC_or : evC call (.or_ a b) = fun ρ => (evC call a ρ).bind fun t ρ => if t then .ok true ρ else evC call b ρ := by
  funext ρ
  show ((evE call a ρ).bind fun d ρ => match d.truth with | some true => .ok d ρ | some false => evE call b ρ | none => .bad).bind _ = ((evE call a ρ).bind _).bind _
  cases evE call a ρ with
  | bad => rfl
  | exc _ _ => rfl
  | ok d ρ1 =>
    show (match d.truth with | some true => .ok d ρ1 | some false => evE call b ρ1 | none => .bad : R D).bind (fun d ρ => R.opt ρ d.truth) = (R.opt ρ1 d.truth).bind _
    cases e : d.truth with
    | none => rfl
    | some t =>
      cases t with
      | false => rfl
      | true =>
        show R.opt ρ1 d.truth = _
        rw [e]
        rfl
theorem evC_not : evC call (.not_ a) = fun ρ => (evC call a ρ).bind fun t ρ => .ok (!t) ρ := by
  funext ρ
  show ((evE call a ρ).bind fun d ρ => R.opt ρ (d.truth.map fun b => D.bl (!b))).bind _ = ((evE call a ρ).bind _).bind _
  cases evE call a ρ with
  | bad => rfl
  | exc _ _ => rfl
  | ok d ρ1 =>
    show (R.opt ρ1 (d.truth.map fun b => D.bl (!b)) : R D).bind (fun d ρ => R.opt ρ d.truth) = (R.opt ρ1 d.truth).bind _
    cases e : d.truth with
    | none => rfl
    | some t => rfl
theorem evE_ite : evE call (.ite c a b) = fun ρ => (evC call c ρ).bind fun t ρ => if t then evE call a ρ else evE call b ρ := by
  funext ρ
  show (evE call c ρ).bind _ = ((evE call c ρ).bind _).bind _
  cases evE call c ρ with
  | bad => rfl
  | exc _ _ => rfl
  | ok d ρ1 =>
    show (match d.truth with | some true => evE call a ρ1 | some false => evE call b ρ1 | none => .bad : R D) = (R.opt ρ1 d.truth).bind _
    cases e : d.truth with
    | none => rfl
    | some t => cases t <;> rfl
theorem evC_ite : evC call (.ite c a b) = fun ρ => (evC call c ρ).bind fun t ρ => if t then evC call a ρ else evC call b ρ := by
  funext ρ
  show (evE call (.ite c a b) ρ).bind _ = _
  rw [evE_ite]
  show ((evC call c ρ).bind fun t ρ => if t then evE call a ρ else evE call b ρ).bind _ = _
  cases evC call c ρ with
  | bad => rfl
  | exc _ _ => rfl
  | ok t ρ1 => cases t <;> rfl
theorem pw_of {r : List Expr} {op : BoolOp} {t : TT} (h : PT X (.BoolOp op r pos) t) : PW X (.BoolOp op r pos) t := by
  refine ⟨fun wh pins s σ H Q I q => ?_⟩
  have e : ∀ w1 w2 : Sem Value, isTrue (.BoolOp op r pos) X.env w1 = isTrue (.BoolOp op r pos) X.env w2 := fun w1 w2 => by
    cases r with
    | nil => cases op <;> rfl
    | cons y r => rfl
  rw [e wh (eval (.BoolOp op r pos) X.env)]
  exact h.run pins s σ H Q I q
theorem pt_if {tc ta tb : TT} (hc : PT X x tc) (ha : PT X y ta) (hb : PT X z tb) : PT X (.IfExp x y z pos) (fun σ H Q => tc σ H fun t H1 => if t = true then ta σ H1 Q else tb σ H1 Q) := by
  refine ⟨fun pins s σ H Q I h => ?_⟩
  refine isTrue_IfExp (thn (hc.run pins s σ H _ I h) fun d s1 ⟨H1, I1, q1⟩ => ?_)
  cases d with
  | true => exact ha.run pins s1 σ H1 Q I1 q1
  | false => exact hb.run pins s1 σ H1 Q I1 q1

/-! ### and, or, not, if -/
/-- a term of the rest behind an and, or -/
theorem SE.one {op : BoolOp} {r : List Expr} (hb : if r = [] then SE R0 X b y else SE R0 X b (.BoolOp op (y :: r) pos)) : PE X (.BoolOp op (y :: r) pos) (tG R0 b.muts (evE R0.call b) (gE R0.F b)) := by
  cases r with
  | nil => exact pe_one (show SE R0 X b y from hb).pe
  | cons z r => exact (show SE R0 X b _ from hb).pe
theorem SE.oneAnd {r : List Expr} (hb : if r = [] then SE R0 X b y else SE R0 X b (.BoolOp .And (y :: r) pos)) (w : b.w R0.F.own = true) : PW X (.BoolOp .And (y :: r) pos) (tCv R0 b.muts (evC R0.call b)) := by
  cases r with
  | nil => exact pw_and1 ((show SE R0 X b y from hb).pt w)
  | cons z r => exact pw_of ((show SE R0 X b _ from hb).pt w)
theorem SE.oneOr {r : List Expr} (hb : if r = [] then SE R0 X b y else SE R0 X b (.BoolOp .Or (y :: r) pos)) (w : b.w R0.F.own = true) : PW X (.BoolOp .Or (y :: r) pos) (tCv R0 b.muts (evC R0.call b)) := by
  cases r with
  | nil => exact pw_or1 ((show SE R0 X b y from hb).pt w)
  | cons z r => exact pw_of ((show SE R0 X b _ from hb).pt w)
theorem n_and (hX : XOk P R0 k X) {r : List Expr} (ha : SE R0 X a x) (hb : if r = [] then SE R0 X b y else SE R0 X b (.BoolOp .And (y :: r) pos)) (sa : a.st R0.F.own = true) (sb : b.st R0.F.own = true) : SE R0 X (.and_ a b) (.BoolOp .And (x :: y :: r) pos) := by
  refine ⟨(pe_andT (ha.peSt sa) ((SE.one hb).evImp fun _ _ _ => ge_st sb)).evImp fun σ H Q h => ?_, fun _ => (pw_and (ha.pt (w_of_st sa)) (SE.oneAnd hb (w_of_st sb))).pt.evImp fun σ H Q h => ?_⟩
  · obtain ⟨S, ρ, h⟩ := h
    rw [gE_plain (e := .and_ a b) rfl rfl] at h
    refine tGat.tG (S := S) (ρ := ρ) (tGat.step (ms := a.muts ++ b.muts) (fun j => memL) h fun d ρ1 x S1 H1 N1 g1 h1 => ?_)
    cases e : d.truth with
    | none => rw [e] at h1; exact h1.2.elim
    | some t =>
      rw [e] at h1
      refine ⟨t, by rw [hX.hK]; exact truV_of (.inl g1) e, ?_⟩
      cases t with
      | true =>
        rw [if_pos rfl]
        exact tG.mono (fun j => memR) h1.tG
      | false =>
        rw [if_neg Bool.false_ne_true]
        obtain ⟨En, q⟩ := h1.ok
        exact q x S1 H1 (Nxt.refl En) g1
  · exact tCv.step (ms := a.muts ++ b.muts) (fun j => memL) (tCv.eq evC_and h) fun t H1 h1 => by
      cases t with
      | true => exact tCv.mono (fun j => memR) h1
      | false => exact tCv.ok h1
theorem OrImp.imp {K : PySem.W.Frag} (sa : a.st R0.F.own = true) (sb : b.st R0.F.own = true) (h : tOrT K (tG R0 a.muts (evE R0.call a) (gSt R0.F)) (tG R0 b.muts (evE R0.call b) (gSt R0.F)) σ H Q) : tOrT K (tG R0 a.muts (evE R0.call a) (gE R0.F a)) (tG R0 b.muts (evE R0.call b) (gE R0.F b)) σ H Q := by
  refine ge_st sa ?_
  obtain ⟨S, ρ, En, h⟩ := h
  refine ⟨S, ρ, En, h.imp (fun d ρ1 h v S1 H1 N g => ?_) fun _ _ h => h⟩
  obtain ⟨k, e, q⟩ := h v S1 H1 N g
  refine ⟨k, e, ?_⟩
  cases k with
  | true => exact q
  | false => exact ge_st sb q
theorem n_or (hX : XOk P R0 k X) {r : List Expr} (ha : SE R0 X a x) (hb : if r = [] then SE R0 X b y else SE R0 X b (.BoolOp .Or (y :: r) pos)) (sa : a.st R0.F.own = true) (sb : b.st R0.F.own = true) : SE R0 X (.or_ a b) (.BoolOp .Or (x :: y :: r) pos) := by
  refine ⟨(pe_orT ha.pe (SE.one hb)).evImp fun σ H Q h => ?_, fun _ => (pw_or (ha.pt (w_of_st sa)) (SE.oneOr hb (w_of_st sb))).pt.evImp fun σ H Q h => ?_⟩
  · by_cases cf : (E.or_ a b).fresh = true
    · have cf' : (a.fresh && b.fresh) = true := cf
      rw [Bool.and_eq_true] at cf'
      obtain ⟨S, ρ, h⟩ := h
      rw [ge_new cf] at h
      rw [ge_new cf'.1, ge_new cf'.2]
      refine tGat.tG (S := S) (ρ := ρ) (tGat.step (ms := a.muts ++ b.muts) (fun j => memL) h fun d ρ1 x S1 H1 N1 g1 h1 => ?_)
      cases e : d.truth with
      | none => rw [e] at h1; exact h1.2.elim
      | some t =>
        rw [e] at h1
        refine ⟨t, by rw [hX.hK]; exact truV_of (g1.elim (fun g => .inr g.1) fun g => .inl g.2) e, ?_⟩
        cases t with
        | false =>
          rw [if_neg Bool.false_ne_true]
          refine (tG.mono (fun j => memR) h1.tG).got fun S' H' v d g => ?_
          refine g.imp (fun g => ⟨g.1, fun a e => ?_⟩) fun g => g
          cases q : H a with
          | none => rfl
          | some o =>
            obtain ⟨o', e'⟩ := N1.stp.ext.live a o q
            rw [g.2 a e] at e'; cases e'
        | true =>
          rw [if_pos rfl]
          obtain ⟨En, q⟩ := h1.ok
          exact q x S1 H1 (Nxt.refl En) g1
    · obtain ⟨S, ρ, h⟩ := h
      rw [gE_plain (e := .or_ a b) (by cases q : (E.or_ a b).fresh with | true => exact absurd q cf | false => rfl) rfl] at h
      refine OrImp.imp (a := a) (b := b) sa sb ?_
      refine tGat.tG (S := S) (ρ := ρ) (tGat.step (ms := a.muts ++ b.muts) (fun j => memL) h fun d ρ1 x S1 H1 N1 g1 h1 => ?_)
      cases e : d.truth with
      | none => rw [e] at h1; exact h1.2.elim
      | some t =>
        rw [e] at h1
        refine ⟨t, by rw [hX.hK]; exact truV_of (.inl g1) e, ?_⟩
        cases t with
        | false =>
          rw [if_neg Bool.false_ne_true]
          exact tG.mono (fun j => memR) h1.tG
        | true =>
          rw [if_pos rfl]
          obtain ⟨En, q⟩ := h1.ok
          exact q x S1 H1 (Nxt.refl En) g1
  · exact tCv.step (ms := a.muts ++ b.muts) (fun j => memL) (tCv.eq evC_or h) fun t H1 h1 => by
      cases t with
      | false => exact tCv.mono (fun j => memR) h1
      | true => exact tCv.ok h1
theorem n_not (hX : XOk P R0 k X) (ha : SE R0 X a x) (wa : a.w R0.F.own = true) : SE R0 X (.not_ a) (.UnaryOp .Not x pos) := by
  refine ⟨(pe_notT (ha.peW wa)).evImp fun σ H Q h => ?_, fun _ => (pt_not (ha.pt wa)).evImp fun σ H Q h => ?_⟩
  · obtain ⟨S, ρ, h⟩ := h
    rw [gE_plain (e := .not_ a) rfl rfl] at h
    refine tGat.tG (S := S) (ρ := ρ) (tGat.step (ms := a.muts) (fun j h => h) h fun d ρ1 x S1 H1 N1 g1 h1 => ?_)
    obtain ⟨En, r, e1, q⟩ := h1.opt
    obtain ⟨b, e2, rfl⟩ := opt_map e1
    exact ⟨b, by rw [hX.hK]; exact truV_of g1 e2, q _ S1 H1 (Nxt.refl En) (.bl _)⟩
  · exact tCv.step (ms := a.muts) (fun j h => h) (tCv.eq evC_not h) fun t H1 h1 => tCv.ok h1
theorem n_ite (hX : XOk P R0 k X) (hc : SE R0 X c x) (ha : SE R0 X a y) (hb : SE R0 X b z) (wc : c.w R0.F.own = true) (sa : a.st R0.F.own = true) (sb : b.st R0.F.own = true) : SE R0 X (.ite c a b) (.IfExp x y z pos) := by
  refine ⟨(pe_ifExp (hc.pt wc) ha.pe hb.pe).evImp fun σ H Q h => ?_, fun _ => (pt_if (hc.pt wc) (ha.pt (w_of_st sa)) (hb.pt (w_of_st sb))).evImp fun σ H Q h => ?_⟩
  · obtain ⟨S, ρ, En, h⟩ := h
    rw [evE_ite] at h
    refine ⟨S, ρ, En, h.bind.imp (fun t ρ1 h S1 H1 N1 => ?_) fun x ρ1 h => h.less fun j => memL⟩
    have main : ∀ (e' : E) (ms : List Nat), (∀ j ∈ ms, j ∈ (E.ite c a b).muts) → ((E.ite c a b).fresh = true → e'.fresh = true) → e'.st R0.F.own = true → KR (evE R0.call e' ρ1) (fun d ρ' => ∀ v S' H', Nxt R0.F S H (E.ite c a b).muts σ ρ S' H' ρ' → gE R0.F (.ite c a b) H S' H' σ v d → Q v H') (R0.ex (E.ite c a b).muts S H σ ρ) → tG R0 ms (evE R0.call e') (gE R0.F e') σ H1 Q := by
      intro e' ms hm hf hs h
      have live : ∀ b o, H b = some o → ∃ o', H1 b = some o' := N1.stp.ext.live
      have base : ∀ got : Hp → Sh → Hp → St → V → D → Prop, (∀ S' H' v d, got H1 S' H' σ v d → gE R0.F (.ite c a b) H S' H' σ v d) → tG R0 ms (evE R0.call e') got σ H1 Q := fun got hg =>
        ⟨S1, ρ1, N1.ok, h.imp (fun d ρ2 h v S2 H2 N2 g => h v S2 H2 ((N1.mono fun j => memL).trans (N2.mono hm)) (hg _ _ _ _ g)) fun x ρ2 h => (h.back (N1.mono fun j => memL)).less hm⟩
      by_cases cf : (E.ite c a b).fresh = true
      · refine base _ fun S' H' v d g => ?_
        rw [ge_new (hf cf)] at g
        rw [ge_new cf]
        refine g.imp (fun g => ⟨g.1, fun a e => ?_⟩) fun g => g
        cases q : H a with
        | none => rfl
        | some o =>
          obtain ⟨o', e'⟩ := live a o q
          rw [g.2 a e] at e'; cases e'
      · refine ge_st hs (base _ fun S' H' v d g => ?_)
        rw [gE_plain (by cases q : (E.ite c a b).fresh with | true => exact absurd q cf | false => rfl) rfl]
        exact g
    cases t with
    | true =>
      rw [if_pos rfl] at h
      exact main a a.muts (fun j m => memR (memL m)) (fun h => (Bool.and_eq_true _ _ ▸ (show (a.fresh && b.fresh) = true from h) : a.fresh = true ∧ b.fresh = true).1) sa h
    | false =>
      rw [if_neg Bool.false_ne_true] at h
      exact main b b.muts (fun j m => memR (memR m)) (fun h => (Bool.and_eq_true _ _ ▸ (show (a.fresh && b.fresh) = true from h) : a.fresh = true ∧ b.fresh = true).2) sb h
  · exact tCv.step (ms := c.muts ++ (a.muts ++ b.muts)) (fun j => memL) (tCv.eq evC_ite h) fun t H1 h1 => by
      cases t with
      | false => exact tCv.mono (fun j m => memR (memR m)) h1
      | true => exact tCv.mono (fun j m => memR (memL m)) h1

/-! ### chains -/
theorem lastMarks2 {o p : CmpOp} {y z : Expr} (h : noSet y = true) (h2 : noSet z = true) : lastMarks [o, p] [y, z] = false := nomark' h2
theorem chain_red (hK : X.K = R0.F.K) {o p : Cm} (sa : a.st R0.F.own = true) (sb : b.st R0.F.own = true) {H0 : Hp} (h : tG R0 (E.chain o p a b c).muts (evE R0.call (.chain o p a b c)) (gSt R0.F) σ H Q) :
    tChain (RC X.K R0.F.FA o) (RC X.K R0.F.FA p) (tG R0 a.muts (evE R0.call a) (gSt R0.F)) (tG R0 b.muts (evE R0.call b) (gSt R0.F)) (tG R0 c.muts (evE R0.call c) (gSt R0.F)) σ H Q := by
  obtain ⟨S, ρ, h⟩ := h
  refine tGat.tG (S := S) (ρ := ρ) (tGat.step (ms := a.muts ++ (b.muts ++ c.muts)) (fun j => memL) h fun d ρ1 x S1 H1 N1 g1 h1 => ?_)
  refine tGat.tG (tGat.step (fun j m => memR (memL m)) h1 fun d2 ρ2 y S2 H2 N2 g2 h2 => ?_)
  rw [hK]
  cases e : o.ev d d2 with
  | none => rw [e] at h2; exact h2.2.elim
  | some t =>
    rw [e] at h2
    refine ⟨S2, d, d2, t, .inl (Den.ext N2.stp.ext g1), .inl g2, e, t, rfl, ?_⟩
    cases t with
    | false =>
      rw [if_neg Bool.false_ne_true]
      obtain ⟨En, q⟩ := h2.ok
      exact q _ S2 H2 (Nxt.refl En) (.bl _)
    | true =>
      rw [if_pos rfl]
      refine tGat.tG (tGat.step (fun j m => memR (memR m)) h2 fun d3 ρ3 z S3 H3 N3 g3 h3 => ?_)
      obtain ⟨En, r, e1, q⟩ := h3.opt
      obtain ⟨bb, e2, rfl⟩ := opt_map e1
      exact ⟨S3, d2, d3, bb, .inl (Den.ext N3.stp.ext g2), .inl g3, e2, q _ S3 H3 (Nxt.refl En) (.bl _)⟩
theorem chain_bool {o p : Cm} (ρ : EV.Env) (d : D) (ρ' : EV.Env) (h : evE call (.chain o p a b c) ρ = .ok d ρ') : ∃ b, d = .bl b := by
  obtain ⟨d1, ρ1, _, h⟩ := R.bind_ok (show (evE call a ρ).bind _ = _ from h)
  obtain ⟨d2, ρ2, _, h⟩ := R.bind_ok h
  cases e : o.ev d1 d2 with
  | none => rw [e] at h; cases h
  | some t =>
    rw [e] at h
    cases t with
    | false => cases h; exact ⟨_, rfl⟩
    | true =>
      obtain ⟨d3, ρ3, _, h⟩ := R.bind_ok h
      obtain ⟨h, _⟩ := R.opt_ok h
      obtain ⟨b, _, rfl⟩ := opt_map h
      exact ⟨b, rfl⟩
theorem n_chain (hX : XOk P R0 k X) {o p : Cm} (ha : SE R0 X a x) (hb : SE R0 X b y) (hc : SE R0 X c z) (sa : a.st R0.F.own = true) (sb : b.st R0.F.own = true) (sc : c.st R0.F.own = true) (n1 : noSet y = true) (n2 : noSet z = true) :
    SE R0 X (.chain o p a b c) (.Compare x [o.op, p.op] [y, z] pos) := by
  have hu := hu65 hX.room
  have hg : gE R0.F (.chain o p a b c) = gSt R0.F := gE_plain rfl rfl
  refine ⟨?_, fun _ => ?_⟩
  · rw [hg]
    exact (pe_chain (c_all hu o) (c_all hu p) (ha.peSt sa) (hb.peSt sb) (hc.peSt sc) (lastMarks2 n1 n2)).evImp fun σ H Q h => chain_red (H0 := H) hX.hK sa sb h
  · refine pt_test (e := .chain o p a b c) (pt_chain (c_all (FA := R0.F.FA) hu o) (c_all (FA := R0.F.FA) hu p) (ha.peSt sa) (hb.peSt sb) (hc.peSt sc) (lastMarks2 n1 n2)) (fun σ H Q h => ?_) hg fun ρ d ρ' h => chain_bool ρ d ρ' h
    rw [hg] at h
    exact chain_red (H0 := H) hX.hK sa sb h
end
end EV
end
section
set_option autoImplicit false
/-! Ev10: an owned list that changes; calls. -/
namespace EV
open PySem PySem.Spec PyProof.Rows L2

/-! ### owned slots -/
mutual
theorem E.flags_own {own : List Nat} : ∀ {e : E} {j : Nat}, j ∈ e.flags own → j ∈ own
  | .var i, j, h => by
    have h : j ∈ (if own.contains i then [i] else []) := h
    split at h
    · rename_i c
      rw [List.mem_singleton.mp h]
      exact List.contains_iff_mem.mp c
    · cases h
  | .tup es, _, h => Es.flags_own (es := es) h
  | .lst es, _, h => Es.flags_own (es := es) h
  | .lit _, _, h => nomatch h
  | .glob _ _, _, h => nomatch h
  | .fn _, _, h => nomatch h
  | .un _ _, _, h => nomatch h
  | .bin _ _ _, _, h => nomatch h
  | .slL _ _, _, h => nomatch h
  | .slH _ _, _, h => nomatch h
  | .slLH _ _ _, _, h => nomatch h
  | .and_ _ _, _, h => nomatch h
  | .or_ _ _, _, h => nomatch h
  | .not_ _, _, h => nomatch h
  | .ite _ _ _, _, h => nomatch h
  | .chain _ _ _ _ _, _, h => nomatch h
  | .call _ _ _ _, _, h => nomatch h
  | .callIo _ _ _, _, h => nomatch h
  | .callT _ _ _, _, h => nomatch h
  | .callv _ _, _, h => nomatch h
  | .pop _ _, _, h => nomatch h
  | .comp _ _ _ _, _, h => nomatch h
  | .compIf _ _ _ _ _, _, h => nomatch h
theorem Es.flags_own {own : List Nat} : ∀ {es : Es} {j : Nat}, j ∈ es.flags own → j ∈ own
  | .nil, _, h => nomatch h
  | .cons e es, j, h => by
    rcases List.mem_append.mp (show j ∈ e.flags own ++ es.flags own from h) with h | h
    · exact E.flags_own h
    · exact Es.flags_own h
end

section
variable {F : Fr0} {S S' S1 : Sh} {H H' H1 : Hp} {σ : St} {ρ ρ1 : EV.Env} {ms fl : List Nat} {i : Nat} {a : Addr} {d d' : D}
theorem EnvOk.slot (E : EnvOk F S H σ ρ) {v : V} (hi : i ∈ F.own) (e : σ[i]? = some (some v)) : ∃ d, ρ[i]? = some (some d) := by
  cases q : ρ[i]? with
  | none =>
    have : ρ.length ≤ i := List.getElem?_eq_none_iff.mp q
    rw [← E.len] at this
    rw [List.getElem?_eq_none_iff.mpr this] at e
    cases e
  | some o =>
    cases o with
    | none => rw [E.un i hi q] at e; cases e
    | some d => exact ⟨d, rfl⟩
theorem Flg.live (E : EnvOk F S H σ ρ) (ho : ∀ j ∈ fl, j ∈ F.own) : Live (Flg S fl σ) H := fun b hb => by
  rcases hb with hb | ⟨j, hj, e⟩
  · exact E.live b hb
  · obtain ⟨d, q⟩ := E.slot (ho j hj) e
    obtain ⟨a, xs, ds, h1, _, h3, _⟩ := E.addr (ho j hj) q
    rw [e] at h1
    cases h1
    exact ⟨_, h3⟩
/-- the owned list of slot i is another one now, at the same place -/
theorem EnvOk.put (E : EnvOk F S H σ ρ) (hi : i ∈ F.own) (e : ρ[i]? = some (some d)) (ha : σ[i]? = some (some (.ref a))) (x : Ext S H S' H') (fr : ∀ b o, H b = some o → b ≠ a → H' b = some o) (ow : Own F.K F.FA S' H' (.ref a) d') :
    EnvOk F S' H' σ (ρ.set i (some d')) where
  len := by rw [List.length_set]; exact E.len
  sh := fun j e' hj h => by
    have hij : i ≠ j := fun z => hj (z ▸ hi)
    rw [List.getElem?_set_ne hij] at h
    obtain ⟨v, h1, h2⟩ := E.sh j e' hj h
    exact ⟨v, h1, h2.ext x⟩
  ow := fun j e' hj h => by
    by_cases hij : i = j
    · subst hij
      rw [List.getElem?_set_self (List.getElem?_eq_some_iff.mp e).1] at h
      cases h
      exact ⟨_, ha, ow⟩
    · rw [List.getElem?_set_ne hij] at h
      obtain ⟨v, h1, h2⟩ := E.ow j e' hj h
      refine ⟨v, h1, h2.step x fun a' ea o ho => fr a' o ho fun z => hij ?_⟩
      subst ea z
      exact E.apart i j a' d e' hi hj e h ha h1
  apart := fun j j' a' d1 d2 hj hj' h1 h2 h3 h4 => by
    obtain ⟨d3, q3⟩ := E.slot hj h3
    obtain ⟨d4, q4⟩ := E.slot hj' h4
    exact E.apart j j' a' d3 d4 hj hj' q3 q4 h3 h4
  frame := fun b o h n => by
    refine fr b o (E.frame b o h n) fun z => ?_
    subst z
    rcases E.mine i b d hi e ha with q | q
    · rw [h] at q; cases q
    · exact n q
  live := fun b h => by
    rcases x.new b h with h | ⟨_, h⟩
    · obtain ⟨o, e⟩ := E.live b h
      exact x.live b o e
    · exact h
  mine := fun j a' e' hj h h2 => by
    obtain ⟨d3, q3⟩ := E.slot hj h2
    exact E.mine j a' d3 hj q3 h2
  inout := fun a' h => by
    obtain ⟨h1, h2, d3, h3⟩ := E.inout a' h
    refine ⟨h1, h2, ?_⟩
    by_cases hi0 : i = 0
    · subst hi0
      exact ⟨d', List.getElem?_set_self (List.getElem?_eq_some_iff.mp e).1⟩
    · exact ⟨d3, by rw [List.getElem?_set_ne hi0]; exact h3⟩
  un := fun j hj h => by
    by_cases hij : i = j
    · subst hij
      rw [List.getElem?_set_self (List.getElem?_eq_some_iff.mp e).1] at h
      cases h
    · rw [List.getElem?_set_ne hij] at h
      exact E.un j hj h
  entry := E.entry.trans x
theorem Nxt.put (E : EnvOk F S H σ ρ) (hi : i ∈ F.own) (e : ρ[i]? = some (some d)) (ha : σ[i]? = some (some (.ref a))) (x : Ext S H S' H') (fr : ∀ b o, H b = some o → b ≠ a → H' b = some o) (ow : Own F.K F.FA S' H' (.ref a) d') (hm : i ∈ ms) :
    Nxt F S H ms σ ρ S' H' (ρ.set i (some d')) := by
  refine ⟨⟨x, fun b o h k => fr b o h fun z => ?_⟩, E.put hi e ha x fr ow, fun j e' h => ?_⟩
  · subst z
    exact k i hm ha
  · by_cases hij : i = j
    · subst hij
      exact ⟨d, e⟩
    · rw [List.getElem?_set_ne hij] at h
      exact ⟨e', h⟩
theorem Ext.put {xs ys : List V} (ns : ¬ S a) (h : H a = some (.lst xs)) : Ext S H S (upd H a (.lst ys)) where
  sub := fun _ h => h
  keep := fun b o hb e => by
    have z : b ≠ a := fun z => ns (z ▸ hb)
    rw [upd_ne z]
    exact e
  tups := fun b zs e => by
    rw [upd_ne (fun z => by subst z; rw [h] at e; cases e)]
    exact e
  frzs := fun b o u e => by
    rw [upd_ne (fun z => by subst z; rw [h] at e; cases e)]
    exact e
  live := fun b o e => by
    by_cases z : b = a
    · subst z; exact ⟨_, upd_same⟩
    · exact ⟨o, by rw [upd_ne z]; exact e⟩
  new := fun b hb => .inl hb
/-- a change at the place itself -/
theorem Nxt.upd {xs ys : List V} {ds : List D} (E : EnvOk F S H σ ρ) (hi : i ∈ F.own) (e : ρ[i]? = some (some d)) (ha : σ[i]? = some (some (.ref a))) (ns : ¬ S a) (h : H a = some (.lst xs)) (hy : DenAll F.K F.FA S H ys ds) (hm : i ∈ ms) :
    Nxt F S H ms σ ρ S (L2.upd H a (.lst ys)) (ρ.set i (some (.lst ds))) :=
  Nxt.put E hi e ha (Ext.put ns h) (fun b o h z => by rw [upd_ne z]; exact h) ⟨a, ys, ds, rfl, ns, upd_same, rfl, hy.ext (Ext.put ns h)⟩ hm
end

/-! ### calls -/
theorem ExcDen.flat {K : PySem.W.Frag} {FA CA : Nat → Option Addr} {cls : List (Str × Option Str)} {S S' : Sh} {H : Hp} {x : Exc} {c : Value} {dd : Option Addr} (f : (x.arg.getD .non).flat = true) (h : ExcDen K FA CA cls S H x c dd) : ExcDen K FA CA cls S' H x c dd := by
  obtain ⟨C, nm, fld, h1, h2, h3, h4⟩ := h
  refine ⟨C, nm, fld, h1, h2, h3, h4.imp (fun h => h) fun ⟨f', d, a, v, e1, e2, e3, e4, e5⟩ => ⟨f', d, a, v, e1, e2, e3, e4, e5.flat ?_⟩⟩
  rw [e2] at f
  exact f
section
variable {X : Cx} {CX : CXT} {k : Nat} {f : Addr} {fd : FuncData} {ps : List Str} {sp : Sp} {E : St → XK} {x : Str} {p pos : Pos} {y e : Expr} {es : List Expr} {t : TA} {tg : TE}
theorem pe_callS0 (F : FnOk X.prog X.w X.K X.mg X.base CX k f fd ps sp) (hr : Room k X.A) (hg : Gl X x) (hm : X.mg x = some (.ref f)) (hk : PySem.W.keepIn X.K (.ref f) = true) (hb : Binds X.K fd ps []) (hx : ∀ σ, PassesAt CX X σ (E σ))
    (hdb : (x == ("__debug__" : Str)) = false := by decide) : PE X (.Call (.Name x p) [] [] pos) (tCallS sp E tNil) := by
  refine ⟨fun pins s σ H Q I h => ?_⟩
  refine wpAny_Call_Name_kw (ld_glob I hg hm ?_ hdb)
  exact PySem.W.callWith_K0 I.kIn hk (run_fnS (us := []) F hr hb (hx σ) I .nil h)
end
section
variable {P : Pg} {R0 : Rd0} {k : Nat} {X : Cx} {a c : E} {es : Es} {ast x y : Expr} {xs : List Expr} {σ : St} {H : Hp} {Q : VK} {p pos : Pos}
/-- a call by name, however many arguments -/
theorem pe_by {f : Addr} {fd : FuncData} {ps : List Str} {sp : Sp} {E : St → XK} {z : Str} (F : FnOk X.prog X.w X.K X.mg X.base (L2.CX X.prog X.w) k f fd ps sp) (hr : Room k X.A) (hg : Gl X z) (hm : X.mg z = some (.ref f)) (hk : PySem.W.keepIn X.K (.ref f) = true) (hb : Binds X.K fd ps []) (hx : ∀ σ, PassesAt (L2.CX X.prog X.w) X σ (E σ))
    (hdb : (z == ("__debug__" : Str)) = false) (hs : SEs R0 X es xs) : PE X (.Call (.Name z p) xs [] pos) (tCallS sp E (tGs R0 es.muts (evEs R0.call es) (es.flags R0.F.own))) := by
  cases xs with
  | nil =>
    rw [hs.nil rfl]
    refine (pe_callS0 F hr hg hm hk hb hx hdb).evImp fun σ H Q h => ?_
    obtain ⟨S, ρ, En, h⟩ := h
    have h' : ∀ vs S' H', Nxt R0.F S H [] σ ρ S' H' ρ → DenAll R0.F.K R0.F.FA (Flg S' [] σ) H' vs [] → sp vs H' Q (E σ) := h
    exact h' [] S H (Nxt.refl En) .nil
  | cons x r =>
    obtain ⟨h1, h2⟩ := hs.cons x r rfl
    exact pe_callS F hr hg hm hk hb hx hs.pa hdb (starEach_cons h1) (h2 pos)
/-- the promise of a def, at flagged arguments -/
theorem call_sp (hX : XOk P R0 k X) {f : Nat} {di : DefI} (hd : P.defs[f]? = some di) (hio : di.io = false) {fl : Bool} {fg ms : List Nat} (hfo : ∀ j ∈ fg, j ∈ R0.F.own) (hfl : fl = true ∨ fg = []) (hfr : fl = false ∨ di.fr = false) {S S1 : Sh} {ρ ρ1 : EV.Env} {H H1 : Hp} {vs : List V} {ds : List D}
    (N : Nxt R0.F S H ms σ ρ S1 H1 ρ1) (g : DenAll R0.F.K R0.F.FA (Flg S1 fg σ) H1 vs ds)
    (h : KR (flatR fl (ofCR ρ1 none (R0.call f ds))) (fun d ρ' => ∀ v S' H', Nxt R0.F S H ms σ ρ S' H' ρ' → (if di.fr = true then gNew R0.F else gSt R0.F) H S' H' σ v d → Q v H') (R0.ex ms S H σ ρ)) :
    spD X.K R0.F.FA R0.CA P.cls (R0.call f) di vs H1 Q (WE R0.W σ) := by
  rw [hX.hK, ← hX.cls]
  have hlen : ds.length = di.np := hX.lens f di ds hd fun e => by
    rw [e] at h
    cases fl <;> exact h.elim
  refine ⟨Flg S1 fg σ, ds, none, Flg.live N.ok hfo, by rw [g.length]; exact hlen, .inl ⟨hio, rfl, g⟩, ?_⟩
  have live : ∀ a : Addr, H1 a = none → H a = none := fun a e => by
    cases q : H a with
    | none => rfl
    | some o =>
      obtain ⟨o', e'⟩ := N.stp.ext.live a o q
      rw [e] at e'; cases e'
  cases q : R0.call f ds with
  | bad =>
    rw [q] at h
    cases fl <;> exact h.elim
  | ok d out =>
    rw [q] at h
    intro v S' H' x fr _ gd
    have same : Same H1 H' := fun b o e => fr b o e (fun z => nomatch z)
    cases fl with
    | false =>
      have hf0 : fg = [] := hfl.resolve_left Bool.false_ne_true
      subst hf0
      rw [Flg.nil] at x
      have h' : ∀ v S' H', Nxt R0.F S H ms σ ρ S' H' ρ1 → (if di.fr = true then gNew R0.F else gSt R0.F) H S' H' σ v d → Q v H' := h
      refine h' v S' H' (N.trans (Nxt.of_same N.ok x same)) ?_
      split at gd
      · rename_i hc
        rw [if_pos hc]
        exact gd.imp (fun g => ⟨g.1, fun a e => live a (g.2 a e)⟩) fun g => g
      · rename_i hc
        rw [if_neg hc]
        exact gd
    | true =>
      have hf0 : di.fr = false := hfr.resolve_left fun z => Bool.false_ne_true z.symm
      rw [hf0, if_neg Bool.false_ne_true] at gd
      have h2 : KR (if d.flat then R.ok d ρ1 else .bad) _ _ := h
      by_cases hflat : d.flat = true
      · rw [if_pos hflat] at h2
        have h' : ∀ v S' H', Nxt R0.F S H ms σ ρ S' H' ρ1 → (if di.fr = true then gNew R0.F else gSt R0.F) H S' H' σ v d → Q v H' := h2
        refine h' v S1 H' (N.trans (Nxt.of_same N.ok (Ext.of_same same) same)) ?_
        rw [hf0, if_neg Bool.false_ne_true]
        exact gd.flat hflat
      · rw [if_neg hflat] at h2
        exact h2.elim
  | exc z out =>
    rw [q] at h
    intro c dd S' H' x fr _ gd
    have same : Same H1 H' := fun b o e => fr b o e (fun z => nomatch z)
    cases fl with
    | false =>
      have hf0 : fg = [] := hfl.resolve_left Bool.false_ne_true
      subst hf0
      rw [Flg.nil] at x
      have h' : R0.ex ms S H σ ρ z ρ1 := h
      exact h' c dd S' H' (N.trans (Nxt.of_same N.ok x same)) gd
    | true =>
      have h2 : KR (if (z.arg.getD .non).flat then R.exc z ρ1 else .bad : R D) _ _ := h
      by_cases hflat : (z.arg.getD .non).flat = true
      · rw [if_pos hflat] at h2
        have h' : R0.ex ms S H σ ρ z ρ1 := h2
        exact h' c dd S1 H' (N.trans (Nxt.of_same N.ok (Ext.of_same same) same)) (gd.flat hflat)
      · rw [if_neg hflat] at h2
        exact h2.elim
theorem n_call (hX : XOk P R0 k X) {fl fr : Bool} {f : Nat} {di : DefI} (hd : P.defs[f]? = some di) (hio : di.io = false) (hgl : glB X.env.scope di.name = true) (hfr : fr = di.fr) (hff : fl = false ∨ fr = false) (hfl : fl = true ∨ es.flags R0.F.own = []) (hs : SEs R0 X es xs) : SE R0 X (.call fl fr f es) (.Call (.Name di.name p) xs [] pos) := by
  obtain ⟨g1, g2, g3⟩ := glB_of hgl
  obtain ⟨a, fd, e1, e2, e3, e4, e5⟩ := hX.defs f di hd
  refine pt_plain hX ((pe_by e5 hX.room g1 e2 e3 e4 (fun σ => passAt hX.takes σ) g2 hs).evImp fun σ H Q h => ?_) fun _ => rfl
  obtain ⟨S, ρ, En, h⟩ := h
  have h' : KR ((evEs R0.call es ρ).bind fun ds ρ => flatR fl (ofCR ρ none (R0.call f ds))) _ _ := h
  refine ⟨S, ρ, En, h'.bind.imp (fun ds ρ1 h vs S1 H1 N g => ?_) fun _ _ h => h⟩
  refine call_sp hX hd hio (fun j => Es.flags_own) hfl (hfr ▸ hff) N g ?_
  have hg : gE R0.F (.call fl fr f es) = if di.fr = true then gNew R0.F else gSt R0.F := by
    unfold gE
    rw [← hfr]
    by_cases c : fr = true
    · rw [if_pos (show (E.call fl fr f es).fresh = true from c), if_pos c]
    · rw [if_neg (show ¬ (E.call fl fr f es).fresh = true from c), if_neg c, if_pos (show (E.call fl fr f es).flags R0.F.own = [] from rfl)]
  rw [hg] at h
  exact h

/-- the call of a def that changes its first parameter's list -/
theorem n_callIo (hX : XOk P R0 k X) {f i : Nat} {di : DefI} {z : Str} {p2 : Pos} (hd : P.defs[f]? = some di) (hio : di.io = true) (hfr : di.fr = false) (hgl : glB X.env.scope di.name = true) (h1 : X.N[i]? = some z) (h2 : visB X.env.scope z = true) (hi : i ∈ R0.F.own) (hfl : es.flags R0.F.own = []) (hs : SEs R0 X es xs) :
    SE R0 X (.callIo f i es) (.Call (.Name di.name p) (.Name z p2 :: xs) [] pos) := by
  obtain ⟨g1, g2, g3⟩ := glB_of hgl
  obtain ⟨v1, v2, v3⟩ := visB_of h2
  obtain ⟨fa, fd, e1, e2, e3, e4, e5⟩ := hX.defs f di hd
  have hp : plainA (.Name z p2) = true := rfl
  refine pt_plain hX ((pe_callS e5 hX.room g1 e2 e3 e4 (fun σ => passAt hX.takes σ) (pa_cons (pe_var h1 v1 v2 v3) hs.pa (starEach_cons hp)) g2 (starEach_cons hp) (hs.back pos)).evImp fun σ H Q h => ?_) fun _ => rfl
  obtain ⟨S, ρ, En, h⟩ := h
  rw [gE_plain (e := .callIo f i es) rfl rfl] at h
  have h' : KR (match ρ.getD i none with
      | some _ => (evEs R0.call es ρ).bind fun ds ρ => match ρ.getD i none with | some d => ofCR ρ (some i) (R0.call f (d :: ds)) | none => .bad
      | none => .bad : R D) _ _ := h
  cases q0 : ρ.getD i none with
  | none => rw [q0] at h'; exact h'.elim
  | some d0 =>
    rw [q0] at h'
    obtain ⟨a, xs0, ds0, a1, a2, a3, a4, a5⟩ := En.addr hi (getD_some q0)
    refine ⟨.ref a, a1, S, ρ, En, h'.bind.imp (fun ds ρ1 h vs S1 H1 N0 g => ?_) fun x ρ1 h => h.less fun j m => List.mem_cons_of_mem _ m⟩
    have N : Nxt R0.F S H (E.callIo f i es).muts σ ρ S1 H1 ρ1 := N0.mono fun j m => List.mem_cons_of_mem _ m
    rw [hfl, Flg.nil] at g
    cases q1 : ρ1.getD i none with
    | none => rw [q1] at h; exact h.elim
    | some d =>
      rw [q1] at h
      have h : KR (ofCR ρ1 (some i) (R0.call f (d :: ds))) _ _ := h
      have q1' := getD_some q1
      obtain ⟨a', xs1, ds1, b1, b2, b3, b4, b5⟩ := N.ok.addr hi q1'
      rw [a1] at b1
      cases b1
      rw [hX.hK, ← hX.cls]
      have hlen : (d :: ds).length = di.np := hX.lens f di _ hd fun e => by
        rw [e] at h
        exact h.elim
      refine ⟨S1, d :: ds, some a, N.ok.live, by rw [← hlen, List.length_cons, List.length_cons, g.length], .inr ⟨hio, a, vs, d, ds, rfl, rfl, rfl, ⟨a, xs1, ds1, rfl, b2, b3, b4, b5⟩, g⟩, ?_⟩
      have put : ∀ S' H' out, Ext S1 H1 S' H' → (∀ b o, H1 b = some o → some a ≠ some b → H' b = some o) → Own R0.F.K R0.F.FA S' H' (.ref a) out → Nxt R0.F S H (E.callIo f i es).muts σ ρ S' H' (ρ1.set i (some out)) := fun S' H' out x fr ow =>
        N.trans (Nxt.put N.ok hi q1' a1 x (fun b o e n => fr b o e fun z => n (Option.some.inj z).symm) ow (List.mem_cons_self))
      cases q : R0.call f (d :: ds) with
      | bad => rw [q] at h; exact h.elim
      | ok r out =>
        rw [q] at h
        intro v S' H' x fr ow gd
        rw [hfr, if_neg Bool.false_ne_true] at gd
        have h2 : ∀ v S' H', Nxt R0.F S H (E.callIo f i es).muts σ ρ S' H' (ρ1.set i (some out)) → gSt R0.F H S' H' σ v r → Q v H' := h
        exact h2 v S' H' (put S' H' out x fr (ow a rfl)) gd
      | exc z out =>
        rw [q] at h
        intro c dd S' H' x fr ow gd
        have h2 : R0.ex (E.callIo f i es).muts S H σ ρ z (ρ1.set i (some out)) := h
        exact h2 c dd S' H' (put S' H' out x fr (ow a rfl)) gd
/-- .. with a new list -/
theorem n_callT (hX : XOk P R0 k X) {f : Nat} {di : DefI} (hd : P.defs[f]? = some di) (hio : di.io = true) (hfr : di.fr = false) (hgl : glB X.env.scope di.name = true) (hp : plainA x = true) (ha : SE R0 X a x) (hf : a.fresh = true) (hfl : es.flags R0.F.own = []) (hq : es.muts = []) (hs : SEs R0 X es xs) :
    SE R0 X (.callT f a es) (.Call (.Name di.name p) (x :: xs) [] pos) := by
  obtain ⟨g1, g2, g3⟩ := glB_of hgl
  obtain ⟨fa, fd, e1, e2, e3, e4, e5⟩ := hX.defs f di hd
  refine pt_plain hX ((pe_callS e5 hX.room g1 e2 e3 e4 (fun σ => passAt hX.takes σ) (pa_cons ha.pe hs.pa (starEach_cons hp)) g2 (starEach_cons hp) (hs.back pos)).evImp fun σ H Q h => ?_) fun _ => rfl
  obtain ⟨S, ρ, En, h⟩ := h
  rw [gE_plain (e := .callT f a es) rfl rfl] at h
  rw [ge_new hf]
  have h' : KR ((evE R0.call a ρ).bind fun d ρ => (evEs R0.call es ρ).bind fun ds ρ => match d with | .lst _ => ofCR ρ none (R0.call f (d :: ds)) | _ => .bad) _ _ := h
  refine ⟨S, ρ, En, h'.bind.imp (fun d ρ1 h v S1 H1 N1 g1 => ?_) fun x ρ1 h => h.less fun j => memL⟩
  refine ⟨S1, ρ1, N1.ok, h.bind.imp (fun ds ρ2 h vs S2 H2 N2 g => ?_) fun x ρ1 h => (h.back (N1.mono fun j => memL)).less fun j => memR⟩
  rw [hfl, Flg.nil] at g
  rw [hq] at N2
  have N : Nxt R0.F S H (E.callT f a es).muts σ ρ S2 H2 ρ2 := (N1.mono fun j => memL).trans N2.nil
  rcases g1 with ⟨ow, nw⟩ | ⟨nl, _⟩
  · obtain ⟨p, xs1, ds1, rfl, b2, b3, rfl, b5⟩ := ow
    have ow2 : Own R0.F.K R0.F.FA S2 H2 (.ref p) (.lst ds1) := Own.step N2.stp.ext (fun b hb o e => N2.stp.same _ _ e) ⟨p, xs1, ds1, rfl, b2, b3, rfl, b5⟩
    have hnew : H p = none := nw p rfl
    have np : ∀ j ∈ R0.F.own, ∀ e, ρ2[j]? = some (some e) → σ[j]? ≠ some (some (.ref p)) := fun j hj e he hs => by
      obtain ⟨e0, he0⟩ := N.dom j e he
      obtain ⟨a0, _, _, q1, _, q3, _⟩ := En.addr hj he0
      rw [hs] at q1
      cases q1
      rw [hnew] at q3; cases q3
    have h : KR (ofCR ρ2 none (R0.call f (.lst ds1 :: ds))) _ _ := h
    rw [hX.hK, ← hX.cls]
    have hlen : (D.lst ds1 :: ds).length = di.np := hX.lens f di _ hd fun e => by
      rw [e] at h
      exact h.elim
    refine ⟨S2, .lst ds1 :: ds, some p, N.ok.live, by rw [← hlen, List.length_cons, List.length_cons, g.length], .inr ⟨hio, p, vs, .lst ds1, ds, rfl, rfl, rfl, ow2, g⟩, ?_⟩
    have put : ∀ S' H' out, Ext S2 H2 S' H' → (∀ b o, H2 b = some o → some p ≠ some b → H' b = some o) → Own R0.F.K R0.F.FA S' H' (.ref p) out → Nxt R0.F S H (E.callT f a es).muts σ ρ S' H' ρ2 := fun S' H' out x fr ow => by
      refine ⟨⟨N.stp.ext.trans x, fun b o e k => ?_⟩, ⟨N.ok.len, fun i d hi e => ?_, fun i d hi e => ?_, N.ok.apart, fun b o e n => ?_, fun b hb => ?_, N.ok.mine, N.ok.inout, N.ok.un, N.ok.entry.trans x⟩, N.dom⟩
      · refine fr b o (N.stp.but b o e k) fun z => ?_
        cases z
        rw [hnew] at e; cases e
      · obtain ⟨v, h1, h2⟩ := N.ok.sh i d hi e
        exact ⟨v, h1, h2.ext x⟩
      · obtain ⟨v, h1, h2⟩ := N.ok.ow i d hi e
        refine ⟨v, h1, h2.step x fun b eb o ho => fr b o ho fun z => ?_⟩
        cases z
        subst eb
        exact np i hi d e h1
      · refine fr b o (N.ok.frame b o e n) fun z => ?_
        cases z
        rw [En.frame p o e n] at hnew; cases hnew
      · rcases x.new b hb with hb | ⟨_, hb⟩
        · obtain ⟨o, e⟩ := N.ok.live b hb
          exact x.live b o e
        · exact hb
    cases q : R0.call f (.lst ds1 :: ds) with
    | bad => rw [q] at h; exact h.elim
    | ok r out =>
      rw [q] at h
      intro v S' H' x fr ow gd
      rw [hfr, if_neg Bool.false_ne_true] at gd
      have h2 : ∀ v S' H', Nxt R0.F S H (E.callT f a es).muts σ ρ S' H' ρ2 → gSt R0.F H S' H' σ v r → Q v H' := h
      exact h2 v S' H' (put S' H' out x fr (ow p rfl)) gd
    | exc z out =>
      rw [q] at h
      intro c dd S' H' x fr ow gd
      have h2 : R0.ex (E.callT f a es).muts S H σ ρ z ρ2 := h
      exact h2 c dd S' H' (put S' H' out x fr (ow p rfl)) gd
  · cases d <;> first | exact absurd rfl (nl _) | exact h.elim

/-! ### the call of a value -/
def tCallV (R0 : Rd0) (P : Pg) (K : PySem.W.Frag) (E : St → XK) (tg : TE) (t : TA) : TE := fun σ H Q => tg σ H fun v H1 => ∃ f di a, v = .ref a ∧ P.defs[f]? = some di ∧ R0.F.FA f = some a ∧ t σ H1 fun vs H2 => spD K R0.F.FA R0.CA P.cls (R0.call f) di vs H2 Q (E σ)
theorem eval_call {func : Expr} {args : List Expr} {env : PySem.Env} (h : noAttr func = true) : eval (.Call func args [] pos) env = (do callWith pos (← eval func env) [] (backTo pos (starEach args env)) (backToKw pos (keywordEach [] env))) := by
  cases func <;> first | rfl | cases h
theorem pe_callV (hX : XOk P R0 k X) {tg : TE} (hn : noAttr y = true) (hg : PE X y tg) (hs : SEs R0 X es xs) (hfl : es.flags R0.F.own = []) :
    PE X (.Call y xs [] pos) (tCallV R0 P X.K (WE R0.W) tg (tGs R0 es.muts (evEs R0.call es) (es.flags R0.F.own))) := by
  refine ⟨fun pins s σ H Q I h => ?_⟩
  refine Call_ (thn (hg.run pins s σ H _ I h) fun u s1 ⟨v, H1, I1, r1, q1⟩ => ?_) (eval_call hn)
  obtain ⟨f, di, a, rfl, hd, hF, q1⟩ := q1
  cases r1
  obtain ⟨a', fd, e1, e2, e3, e4, e5⟩ := hX.defs f di hd
  obtain ⟨di', hd', i1, i2⟩ := hX.fns f a hF
  rw [hd] at hd'
  cases hd'
  rw [e1 i1 i2] at hF
  cases hF
  cases xs with
  | nil =>
    have hnil := hs.nil rfl
    subst hnil
    refine PySem.W.callWith_K0 I1.kIn e3 (run_fnS (us := []) e5 hX.room e4 (passAt hX.takes σ) I1 .nil ?_)
    obtain ⟨S, ρ, En, h⟩ := q1
    have h' : ∀ vs S' H', Nxt R0.F S H1 [] σ ρ S' H' ρ → DenAll R0.F.K R0.F.FA (Flg S' [] σ) H' vs [] → spD X.K R0.F.FA R0.CA P.cls (R0.call f) di vs H' Q (WE R0.W σ) := h
    exact h' [] S H1 (Nxt.refl En) .nil
  | cons x r =>
    obtain ⟨h1, h2⟩ := hs.cons x r rfl
    refine PySem.W.callWith_K (h₀ := X.base) I1.ok.mod.kin e3 (thn (hs.pa.run pos pins s1 σ H1 _ I1 q1) fun us s2 ⟨vs, H2, I2, r, q⟩ => ⟨I2.kIn, ?_⟩) (starEach_cons h1) (h2 pos)
    exact run_fnS e5 hX.room e4 (passAt hX.takes σ) I2 r q
theorem n_callv (hX : XOk P R0 k X) {g : E} (hn : noAttr y = true) (hg : SE R0 X g y) (sg : g.st R0.F.own = true) (hs : SEs R0 X es xs) (hfl : es.flags R0.F.own = []) : SE R0 X (.callv g es) (.Call y xs [] pos) := by
  refine pt_plain hX ((pe_callV hX hn (hg.peSt sg) hs hfl).evImp fun σ H Q h => ?_) fun _ => by cases y <;> first | rfl | cases hn
  obtain ⟨S, ρ, En, h⟩ := h
  rw [gE_plain (e := .callv g es) rfl rfl] at h
  have h' : KR ((evE R0.call g ρ).bind fun d ρ => match d with | .fn f => (evEs R0.call es ρ).bind fun ds ρ => ofCR ρ none (R0.call f ds) | _ => .bad) _ _ := h
  refine ⟨S, ρ, En, h'.bind.imp (fun d ρ1 h v S1 H1 N1 g1 => ?_) fun x ρ1 h => h.less fun j => memL⟩
  cases d with
  | fn f =>
    obtain ⟨a, rfl, hF⟩ := den_fn g1
    obtain ⟨di, hd, i1, i2⟩ := hX.fns f a hF
    refine ⟨f, di, a, rfl, hd, hF, S1, ρ1, N1.ok, ?_⟩
    have h2 : KR ((evEs R0.call es ρ1).bind fun ds ρ => ofCR ρ none (R0.call f ds)) _ _ := h
    refine h2.bind.imp (fun ds ρ2 h vs S2 H2 N2 g2 => ?_) fun x ρ1 h => (h.back (N1.mono fun j => memL)).less fun j => memR
    refine call_sp hX hd i1 (fl := false) (fun j => Es.flags_own) (.inr hfl) (.inl rfl) ((N1.mono fun j => memL).trans (N2.mono fun j => memR)) g2 ?_
    rw [i2, if_neg Bool.false_ne_true]
    exact h
  | _ => exact h.elim
end
end EV
end
section
set_option autoImplicit false
/-! Ev11: targets, pop, what is walked. -/
namespace EV
open PySem PySem.Spec PyProof.Rows L2

section
variable {F : Fr0} {S S' S1 : Sh} {H H' H1 : Hp} {σ σ1 : St} {ρ ρ1 : EV.Env} {ms fl : List Nat} {i : Nat} {a : Addr} {d d' : D} {v : V}
/-- a slot that owns nothing is set -/
theorem EnvOk.setS (E : EnvOk F S H σ ρ) (hi : i ∉ F.own) (hl : i < ρ.length) (hd : Den F.K F.FA S H v d) : EnvOk F S H (σ.set i (some v)) (ρ.set i (some d)) where
  len := by rw [List.length_set, List.length_set]; exact E.len
  sh := fun j e hj h => by
    by_cases hij : i = j
    · subst hij
      rw [List.getElem?_set_self hl] at h
      cases h
      exact ⟨v, List.getElem?_set_self (by rw [E.len]; exact hl), hd⟩
    · rw [List.getElem?_set_ne hij] at h ⊢
      exact E.sh j e hj h
  ow := fun j e hj h => by
    have hij : i ≠ j := fun z => hi (z ▸ hj)
    rw [List.getElem?_set_ne hij] at h ⊢
    exact E.ow j e hj h
  apart := fun j j' a d e hj hj' h1 h2 h3 h4 => by
    have hij : i ≠ j := fun z => hi (z ▸ hj)
    have hij' : i ≠ j' := fun z => hi (z ▸ hj')
    rw [List.getElem?_set_ne hij] at h1 h3
    rw [List.getElem?_set_ne hij'] at h2 h4
    exact E.apart j j' a d e hj hj' h1 h2 h3 h4
  frame := E.frame
  live := E.live
  mine := fun j a e hj h1 h2 => by
    have hij : i ≠ j := fun z => hi (z ▸ hj)
    rw [List.getElem?_set_ne hij] at h1 h2
    exact E.mine j a e hj h1 h2
  inout := fun a h => by
    obtain ⟨h1, h2, h3⟩ := E.inout a h
    have hij : i ≠ 0 := fun z => hi (z ▸ h1)
    rw [List.getElem?_set_ne hij, List.getElem?_set_ne hij]
    exact ⟨h1, h2, h3⟩
  un := fun j hj h => by
    have hij : i ≠ j := fun z => hi (z ▸ hj)
    rw [List.getElem?_set_ne hij] at h ⊢
    exact E.un j hj h
  entry := E.entry
end

/-! ### targets -/
def gTg (F : Fr0) (slots : List Nat) (b : D → EV.Env → Option EV.Env) : TG := fun v σ H Q =>
  ∃ S ρ d ρ', EnvOk F S H σ ρ ∧ Den F.K F.FA S H v d ∧ b d ρ = some ρ' ∧ ∀ σ', EnvOk F S H σ' ρ' → (∀ i, i ∉ slots → σ'[i]? = σ[i]?) → (∀ i, i ∉ slots → ρ'[i]? = ρ[i]?) → ρ'.length = ρ.length → Q σ' H
def gTgs (F : Fr0) (slots : List Nat) (b : List D → EV.Env → Option EV.Env) : TGs := fun vs σ H Q =>
  ∃ S ρ ds ρ', EnvOk F S H σ ρ ∧ DenAll F.K F.FA S H vs ds ∧ b ds ρ = some ρ' ∧ ∀ σ', EnvOk F S H σ' ρ' → (∀ i, i ∉ slots → σ'[i]? = σ[i]?) → (∀ i, i ∉ slots → ρ'[i]? = ρ[i]?) → ρ'.length = ρ.length → Q σ' H
theorem _root_.L2.PG.evImp {X : Cx} {e : Expr} {t t' : TG} (h : PG X e t) (f : ∀ v σ H Q, t' v σ H Q → t v σ H Q) : PG X e t' := ⟨fun pins s σ H v u Q I r q => h.run pins s σ H v u Q I r (f v σ H Q q)⟩
theorem _root_.L2.PGs.evImp {X : Cx} {e : List Expr} {t t' : TGs} (h : PGs X e t) (f : ∀ v σ H Q, t' v σ H Q → t v σ H Q) : PGs X e t' := ⟨fun pins s σ H v u Q I r q => h.run pins s σ H v u Q I r (f v σ H Q q)⟩
section
variable {P : Pg} {R0 : Rd0} {k : Nat} {X : Cx} {sc : Scope}
theorem assignEach_cons {e : Expr} {es : List Expr} {env : PySem.Env} (h : plainA e = true) : assignEach (e :: es) env = (false, assign e env) :: assignEach es env := by
  cases e <;> first | rfl | cases h
theorem locB_of (hs : SX sc X) {x : Str} (h : locB sc x = true) : Loc X.env.scope x ∧ (X.fn x = true ∨ X.env.scope.names.lookup x = some .local) := by
  unfold locB at h
  simp only [Bool.or_eq_true, decide_eq_true_eq] at h
  rcases h with h | h
  · exact ⟨.inl (hs.lo x h), .inr (hs.lo x h)⟩
  · exact ⟨.inr (hs.ce x h), .inl (hs.fn x h)⟩
theorem chkTs_len {N : List Str} : ∀ {ts : Tgs} {es : List Expr} {env : PySem.Env}, chkTs N sc ts es = true → (assignEach es env).length = es.length ∧ (assignEach es env).findIdx? (·.1) = none ∧ ∀ ds ρ ρ', ts.bind ds ρ = some ρ' → ds.length = es.length
  | .nil, [], _, _ => ⟨rfl, rfl, fun ds ρ ρ' h => by cases ds <;> first | rfl | cases h⟩
  | .nil, _ :: _, _, h => by simp [chkTs] at h
  | .cons _ _, [], _, h => by simp [chkTs] at h
  | .cons t ts, e :: es, env, h => by
    simp only [chkTs, Bool.and_eq_true] at h
    obtain ⟨h1, h2, h3⟩ := chkTs_len (env := env) h.2
    rw [assignEach_cons h.1.1]
    refine ⟨by rw [List.length_cons, List.length_cons, h1], ?_, fun ds ρ ρ' hb => ?_⟩
    · rw [List.findIdx?_cons]
      show Option.map _ ((assignEach es env).findIdx? (·.1)) = none
      rw [h2]
      rfl
    · cases ds with
      | nil => simp [Tgs.bind] at hb
      | cons d ds =>
        obtain ⟨ρ1, _, hb⟩ := Option.bind_eq_some_iff.mp (show (t.bind d ρ).bind (fun ρ1 => ts.bind ds ρ1) = some ρ' from hb)
        rw [List.length_cons, List.length_cons, h3 ds ρ1 ρ' hb]
mutual
theorem soundT (hX : XOk P R0 k X) (hs : SX sc X) : ∀ (t : Tg) {e : Expr}, chkT X.N sc t e = true → (∀ i ∈ t.slots, i ∉ R0.F.own) → PG X e (gTg R0.F t.slots t.bind)
  | .nm i, e, h, ho => by
    cases e <;> first | simp [chkT] at h; done | skip
    rename_i x pos
    simp only [chkT, Bool.and_eq_true, decide_eq_true_eq] at h
    obtain ⟨l1, l2⟩ := locB_of hs h.2
    refine (pg_name hX.nd h.1 l1 l2).evImp fun v σ H Q q => ?_
    obtain ⟨S, ρ, d, ρ', En, hd, hb, q⟩ := q
    obtain ⟨hl, hb⟩ : i < ρ.length ∧ ρ.set i (some d) = ρ' := by
      have z : (if i < ρ.length then some (ρ.set i (some d)) else none) = some ρ' := hb
      split at z
      · rename_i c
        exact ⟨c, Option.some.inj z⟩
      · cases z
    subst hb
    refine q _ (En.setS (ho i (List.mem_singleton.mpr rfl)) hl hd) (fun j hj => ?_) (fun j hj => ?_) List.length_set
    · rw [List.getElem?_set_ne (fun z => hj (List.mem_singleton.mpr z.symm))]
    · rw [List.getElem?_set_ne (fun z => hj (List.mem_singleton.mpr z.symm))]
  | .tp ts, e, h, ho => by
    cases e <;> first | simp [chkT] at h; done | skip
    rename_i es kk pos
    have h' : chkTs X.N sc ts es = true := by simpa [chkT] using h
    obtain ⟨h1, h2, h3⟩ := chkTs_len (env := X.env) h'
    refine (pg_tup hX.calm (soundTs hX hs ts h' ho) h1 h2).evImp fun v σ H Q q => ?_
    obtain ⟨S, ρ, d, ρ', En, hd, hb, q⟩ := q
    cases d with
    | tup ds =>
      obtain ⟨a, xs, rfl, g1, g2⟩ := den_tup hd
      rw [hX.hK]
      have hb' : ts.bind ds ρ = some ρ' := hb
      exact ⟨a, xs, rfl, g1, by rw [g2.length, h3 ds ρ ρ' hb'], S, ρ, ds, ρ', En, g2, hb', q⟩
    | _ => cases hb
theorem soundTs (hX : XOk P R0 k X) (hs : SX sc X) : ∀ (ts : Tgs) {es : List Expr}, chkTs X.N sc ts es = true → (∀ i ∈ ts.slots, i ∉ R0.F.own) → PGs X es (gTgs R0.F ts.slots ts.bind)
  | .nil, [], h, ho => pgs_nil.evImp fun vs σ H Q q => by
    obtain ⟨S, ρ, ds, ρ', En, hd, hb, q⟩ := q
    cases ds with
    | cons _ _ => cases hb
    | nil =>
      cases hd
      cases (show some ρ = some ρ' from hb)
      exact ⟨rfl, q σ En (fun _ _ => rfl) (fun _ _ => rfl) rfl⟩
  | .nil, _ :: _, h, _ => by simp [chkTs] at h
  | .cons _ _, [], h, _ => by simp [chkTs] at h
  | .cons t ts, e :: es, h, ho => by
    simp only [chkTs, Bool.and_eq_true] at h
    refine (pgs_cons (soundT hX hs t h.1.2 fun i hi => ho i (List.mem_append_left _ hi)) (soundTs hX hs ts h.2 fun i hi => ho i (List.mem_append_right _ hi)) (by rw [assignEach_cons h.1.1]; rfl)).evImp fun vs σ H Q q => ?_
    obtain ⟨S, ρ, ds, ρ', En, hd, hb, q⟩ := q
    cases ds with
    | nil => simp [Tgs.bind] at hb
    | cons d ds =>
      cases hd with
      | cons g1 g2 =>
        obtain ⟨ρ1, b1, b2⟩ := Option.bind_eq_some_iff.mp (show (t.bind d ρ).bind (fun ρ1 => ts.bind ds ρ1) = some ρ' from hb)
        refine ⟨_, _, rfl, S, ρ, d, ρ1, En, g1, b1, fun σ1 E1 k1 k2 l1 => ⟨S, ρ1, ds, ρ', E1, g2, b2, fun σ2 E2 k3 k4 l2 => q σ2 E2 (fun i hi => ?_) (fun i hi => ?_) (l2.trans l1)⟩⟩
        · rw [k3 i (fun z => hi (List.mem_append_right _ z)), k1 i (fun z => hi (List.mem_append_left _ z))]
        · rw [k4 i (fun z => hi (List.mem_append_right _ z)), k2 i (fun z => hi (List.mem_append_left _ z))]
end
end

/-! ### pop -/
section
variable {P : Pg} {R0 : Rd0} {k : Nat} {X : Cx} {e a b : E} {x y : Expr} {σ : St} {H : Hp} {Q : VK} {tg : Expr}
theorem den_erase {K : PySem.W.Frag} {FA : Nat → Option Addr} {S : Sh} {H : Hp} : ∀ {xs : List V} {ds : List D} (n : Nat), DenAll K FA S H xs ds → DenAll K FA S H (xs.eraseIdx n) (ds.eraseIdx n)
  | _, _, _, .nil => .nil
  | _, _, 0, .cons _ t => t
  | _, _, n + 1, .cons a t => .cons a (den_erase n t)
theorem few1 {pos : Pos} (hp : plainA y = true) : ((backTo pos (starEach [y] X.env)).all (fun x => !x.1) && (backToKw pos (keywordEach [] X.env)).all (fun x => x.1.isSome)
      && decide (([y] : List Expr).length + ([] : List Keyword).length + (if ([] : List Keyword).isEmpty then 0 else 1) < 30)) = true := by
  rw [starEach_cons hp]
  rfl
theorem n_pop (hX : XOk P R0 k X) {i : Nat} {z : Str} {p1 ap cp : Pos} (hl : (ap.endLine == cp.line) = true) (hp : plainA y = true) (h1 : X.N[i]? = some z) (h2 : visB X.env.scope z = true) (hi : i ∈ R0.F.own) (he : SE R0 X e y) (se : e.st R0.F.own = true) :
    SE R0 X (.pop i e) (.Call (.Attribute (.Name z p1) "pop" ap) [y] [] cp) := by
  obtain ⟨v1, v2, v3⟩ := visB_of h2
  refine pt_plain hX ((pe_bm F.plainAttrs_list F.slot_list_pop F.type_list_pop mt_popAt (pe_var h1 v1 v2 v3) (pa_cons (he.peSt se) pa_nil (starEach_cons hp)) rfl (few1 hp) hl (starEach_cons hp) rfl).evImp fun σ H Q h => ?_) fun _ => rfl
  obtain ⟨S, ρ, En, h⟩ := h
  rw [gE_plain (e := .pop i e) rfl rfl] at h
  have h' : KR (match ρ.getD i none with
    | some _ => (evE R0.call e ρ).bind fun d ρ => match ρ.getD i none, d with
      | some (.lst ds), .int k => match ixN ds.length k with
          | some j => match ds[j]? with | some x => if ds.length ≤ sizeLine then .ok x (ρ.set i (some (.lst (ds.eraseIdx j)))) else .bad | none => .bad
          | none => .bad
      | _, _ => .bad
    | none => .bad : R D) _ _ := h
  cases q0 : ρ.getD i none with
  | none => rw [q0] at h'; exact h'.elim
  | some d0 =>
    rw [q0] at h'
    obtain ⟨a, xs0, ds0, a1, a2, a3, a4, a5⟩ := En.addr hi (getD_some q0)
    refine ⟨.ref a, a1, .inl ⟨rfl, xs0, .inl (.inl a3)⟩, S, ρ, En, h'.bind.imp (fun d ρ1 h v S1 H1 N0 g => ?_) fun x ρ1 h => h.less fun j m => List.mem_cons_of_mem _ m⟩
    have N : Nxt R0.F S H (E.pop i e).muts σ ρ S1 H1 ρ1 := N0.mono fun j m => List.mem_cons_of_mem _ m
    cases q1 : ρ1.getD i none with
    | none => rw [q1] at h; exact h.elim
    | some d1 =>
      rw [q1] at h
      have q1' := getD_some q1
      obtain ⟨a', xs1, ds1, b1, b2, b3, rfl, b5⟩ := N.ok.addr hi q1'
      rw [a1] at b1
      cases b1
      cases d with
      | int kk =>
        have h : KR (match ixN ds1.length kk with
          | some j => match ds1[j]? with | some x => if ds1.length ≤ sizeLine then .ok x (ρ1.set i (some (.lst (ds1.eraseIdx j)))) else .bad | none => .bad
          | none => .bad : R D) _ _ := h
        cases qj : ixN ds1.length kk with
        | none => rw [qj] at h; exact h.elim
        | some j =>
          rw [qj] at h
          have h : KR (match ds1[j]? with | some x => if ds1.length ≤ sizeLine then .ok x (ρ1.set i (some (.lst (ds1.eraseIdx j)))) else .bad | none => .bad : R D) _ _ := h
          cases qx : ds1[j]? with
          | none => rw [qx] at h; exact h.elim
          | some r =>
            rw [qx] at h
            have h : KR (if ds1.length ≤ sizeLine then .ok r (ρ1.set i (some (.lst (ds1.eraseIdx j)))) else .bad : R D) _ _ := h
            split at h
            · rename_i hz
              obtain ⟨j1, j2, j3, j4⟩ := ixN_seq qj
              obtain ⟨w, w1, w2⟩ := b5.get qx
              have hz' : (ds1.length : Int) < 2 ^ 63 := by
                have := line63
                omega
              refine ⟨a, xs1, kk, j, w, rfl, by rw [den_int g], b3, by omega, by omega, by rw [b5.length]; exact j1, w1, ?_⟩
              have h2 : ∀ v S' H', Nxt R0.F S H (E.pop i e).muts σ ρ S' H' (ρ1.set i (some (.lst (ds1.eraseIdx j)))) → gSt R0.F H S' H' σ v r → Q v H' := h
              exact h2 w S1 _ (N.trans (Nxt.upd N.ok hi q1' a1 b2 b3 (den_erase j b5) List.mem_cons_self)) (w2.ext (Ext.put b2 b3))
            · exact h.elim
      | _ => exact h.elim

/-! ### what is walked -/
def ItOk (F : Fr0) (fl : List Nat) (σ : St) (J : L2.It) (ds : List D) (S : Sh) (H : Hp) : Prop := ∀ S1 H1, Ext S H S1 H1 → (∀ j ∈ fl, ∀ a o, σ[j]? = some (some (.ref a)) → H a = some o → H1 a = some o) →
  (∀ i, i < ds.length → J.go i H1) ∧ J.stop ds.length H1 ∧ ∀ i x H2, i < ds.length → J.yld i H1 x H2 → Same H1 H2 ∧ ∃ d, ds[i]? = some d ∧ Den F.K F.FA S1 H2 x d
def tIt (R0 : Rd0) (ms : List Nat) (f : EV.Env → R (List D)) (fl : List Nat) : TI := fun σ H W =>
  ∃ S ρ, EnvOk R0.F S H σ ρ ∧ KR (f ρ) (fun ds ρ' => ∀ J S' H', Nxt R0.F S H ms σ ρ S' H' ρ' → ItOk R0.F fl σ J ds S' H' → W J H') (R0.ex ms S H σ ρ)
theorem _root_.L2.PI.evImp {X : Cx} {tg e : Expr} {t t' : TI} (h : PI X tg e t) (f : ∀ σ H R, t' σ H R → t σ H R) : PI X tg e t' := ⟨fun pins s σ H R I q => h.run pins s σ H R I (f σ H R q)⟩
def iAny (K : PySem.W.Frag) (te : TE) : TI := fun σ H R => te σ H fun v H1 => (∃ a xs, v = .ref a ∧ SqL K H1 a xs ∧ R (Itl K a) H1) ∨ (∃ a xs, v = .ref a ∧ SqT K H1 a xs ∧ R (Itt K a) H1) ∨ (∃ x, v = .str x ∧ R (Its x) H1)
theorem pi_any {te : TE} (he : PE X x te) : PI X tg x (iAny X.K te) := by
  refine ⟨fun pins s σ H R I h => ?_⟩
  refine thn (he.run pins s σ H _ I h) fun v s1 ⟨y, H1, I1, r1, q1⟩ => ?_
  rcases q1 with ⟨a, xs, rfl, hq, q⟩ | ⟨a, xs, rfl, hq, q⟩ | ⟨x, rfl, q⟩
  · cases r1
    obtain ⟨its, rv, p, hz⟩ := I1.list hq
    refine wpAny_pyIter_list p.isList ?_
    exact pi_one (tk := s1.toks) I1 _ (turn_list a _) ⟨_, Heap.get?_push_size _ rfl, rfl, rfl⟩ q
  · cases r1
    obtain ⟨its, rv, p, hz⟩ := I1.tuple hq
    refine wpAny_pyIter_tuple (show s1.heap.IsTuple a its.toArray from p) ?_
    exact pi_one (tk := s1.toks) I1 _ (turn_tuple a _) ⟨_, Heap.get?_push_size _ rfl, rfl, rfl⟩ q
  · obtain ⟨t, rfl⟩ := r1
    cases ha : x.cps.all (· < 128)
    · exact wpAny_pyIter_wide ha (pi_one (tk := s1.toks) I1 _ (turn_str _ x t "str_iterator" (.inr rfl)) ⟨_, Heap.get?_push_size _ rfl, rfl, rfl⟩ q)
    · exact wpAny_pyIter_ascii ha (pi_one (tk := s1.toks) I1 _ (turn_str _ x t "str_ascii_iterator" (.inl rfl)) ⟨_, Heap.get?_push_size _ rfl, rfl, rfl⟩ q)

/-- an operand that is walked -/
def gI (F : Fr0) (e : E) : Hp → Sh → Hp → St → V → D → Prop := fun _ S H σ v d => Den F.K F.FA S H v d ∨ (Own F.K F.FA S H v d ∧ ∃ j ∈ e.flags F.own, σ[j]? = some (some v))
theorem ge_i (he : e.w R0.F.own = true) {ms : List Nat} {f : EV.Env → R D} (h : tG R0 ms f (gI R0.F e) σ H Q) : tG R0 ms f (gE R0.F e) σ H Q := by
  by_cases c : e.st R0.F.own = true
  · exact ge_st c (h.got fun _ _ _ _ q => .inl q)
  · unfold E.w at he
    rw [Bool.or_eq_true] at he
    have hv : e.isVar = true := he.resolve_left c
    unfold gE
    rw [if_neg (fun z => by rw [fresh_novar z] at hv; cases hv), if_neg (fun z => c (List.isEmpty_iff.mpr z)), if_pos hv]
    refine h.got fun _ _ _ _ q => .inr ⟨q.1, ?_⟩
    cases hfl : e.flags R0.F.own with
    | nil => exact absurd (List.isEmpty_iff.mpr hfl) c
    | cons i r => exact ⟨i, List.mem_cons_self, q.2 i (by rw [hfl]; exact List.mem_cons_self)⟩
theorem SE.peI (h : SE R0 X e x) (he : e.w R0.F.own = true) : PE X x (tG R0 e.muts (evE R0.call e) (gI R0.F e)) := h.pe.evImp fun _ _ _ => ge_i he
def Keep (fl : List Nat) (σ : St) (H H1 : Hp) : Prop := ∀ j ∈ fl, ∀ a o, σ[j]? = some (some (.ref a)) → H a = some o → H1 a = some o
theorem gI.seq {F : Fr0} {H0 : Hp} {S : Sh} {v : V} {ds : List D} (h : gI F e H0 S H σ v (.lst ds)) : ∃ a xs, v = .ref a ∧ ∀ S1 H1, Ext S H S1 H1 → Keep (e.flags F.own) σ H H1 → SqL F.K H1 a xs ∧ DenAll F.K F.FA S1 H1 xs ds := by
  rcases h with h | ⟨⟨a, xs, es, rfl, ns, ha, e1, hd⟩, j, hj, hs⟩
  · obtain ⟨a, xs, rfl, s, h1, h2⟩ := den_lst h
    exact ⟨a, xs, rfl, fun S1 H1 x _ => ⟨SqL.ext x s h1, h2.ext x⟩⟩
  · cases e1
    exact ⟨a, xs, rfl, fun S1 H1 x kp => ⟨.inl (.inl (kp j hj a _ hs ha)), hd.ext x⟩⟩
theorem gI.tup {F : Fr0} {H0 : Hp} {S : Sh} {v : V} {ds : List D} (h : gI F e H0 S H σ v (.tup ds)) : ∃ a xs, v = .ref a ∧ ∀ S1 H1, Ext S H S1 H1 → SqT F.K H1 a xs ∧ DenAll F.K F.FA S1 H1 xs ds := by
  rcases h with h | ⟨⟨a, xs, es, rfl, ns, ha, e1, hd⟩, j, hj, hs⟩
  · obtain ⟨a, xs, rfl, h1, h2⟩ := den_tup h
    exact ⟨a, xs, rfl, fun S1 H1 x => ⟨SqT.ext x h1, h2.ext x⟩⟩
  · cases e1
theorem gI.str {F : Fr0} {H0 : Hp} {S : Sh} {v : V} {s : List Nat} (h : gI F e H0 S H σ v (.str s)) : v = .str ⟨s.toArray⟩ := by
  rcases h with h | ⟨⟨a, xs, es, rfl, ns, ha, e1, hd⟩, j, hj, hs⟩
  · exact den_str h
  · cases e1
theorem gI.wden {F : Fr0} {H0 : Hp} {S : Sh} {v : V} {d : D} (h : gI F e H0 S H σ v d) : WDen F.K F.FA S H v d := h.imp (fun h => h) fun h => h.1
theorem gI.step {F : Fr0} {H0 : Hp} {S S' : Sh} {H' : Hp} {v : V} {d : D} {ms : List Nat} (h : gI F e H0 S H σ v d) (q : e.st F.own = true ∨ ms = []) (N : Stp S H ms σ S' H') : gI F e H0 S' H' σ v d := by
  rcases h with h | ⟨h, j, hj, hs⟩
  · exact .inl (h.ext N.ext)
  · rcases q with q | q
    · rw [List.isEmpty_iff.mp q] at hj
      cases hj
    · subst q
      exact .inr ⟨h.step N.ext fun a _ o e => N.same _ _ e, j, hj, hs⟩

theorem ok_list {F : Fr0} {fl : List Nat} {S : Sh} {a : Addr} {xs : List V} {ds : List D} (h : ∀ S1 H1, Ext S H S1 H1 → Keep fl σ H H1 → SqL F.K H1 a xs ∧ DenAll F.K F.FA S1 H1 xs ds) : ItOk F fl σ (Itl F.K a) ds S H := by
  intro S1 H1 x kp
  obtain ⟨h1, h2⟩ := h S1 H1 x kp
  refine ⟨fun i hi => ?_, ⟨xs, h1, by rw [h2.length]; exact Nat.le_refl _⟩, fun i v H2 hi y => ?_⟩
  · obtain ⟨v, e, _⟩ := h2.get (List.getElem?_eq_getElem hi)
    exact ⟨xs, v, h1, e⟩
  · obtain ⟨rfl, y⟩ := y
    obtain ⟨d, e, hd⟩ := h2.getV (y xs h1)
    exact ⟨Same.refl _, d, e, hd⟩
theorem ok_tup {F : Fr0} {fl : List Nat} {S : Sh} {a : Addr} {xs : List V} {ds : List D} (h : ∀ S1 H1, Ext S H S1 H1 → SqT F.K H1 a xs ∧ DenAll F.K F.FA S1 H1 xs ds) : ItOk F fl σ (Itt F.K a) ds S H := by
  intro S1 H1 x kp
  obtain ⟨h1, h2⟩ := h S1 H1 x
  refine ⟨fun i hi => ?_, ⟨xs, h1, by rw [h2.length]; exact Nat.le_refl _⟩, fun i v H2 hi y => ?_⟩
  · obtain ⟨v, e, _⟩ := h2.get (List.getElem?_eq_getElem hi)
    exact ⟨xs, v, h1, e⟩
  · obtain ⟨rfl, y⟩ := y
    obtain ⟨d, e, hd⟩ := h2.getV (y xs h1)
    exact ⟨Same.refl _, d, e, hd⟩
theorem ok_str {F : Fr0} {fl : List Nat} {S : Sh} {s : List Nat} : ItOk F fl σ (Its ⟨s.toArray⟩) (s.map fun c => .str [c]) S H := by
  intro S1 H1 x kp
  have e0 : (⟨s.toArray⟩ : Str).cps.size = s.length := rfl
  refine ⟨fun i hi => ?_, ?_, fun i v H2 hi y => ?_⟩
  · rw [List.length_map] at hi
    exact hi
  · rw [List.length_map]
    exact Nat.le_refl _
  · obtain ⟨rfl, c, hc, rfl⟩ := y
    have hc' : s[i]? = some c := by
      have : s.toArray[i]? = some c := hc
      simpa using this
    exact ⟨Same.refl _, .str [c], by rw [List.getElem?_map, hc']; rfl, .str [c]⟩
theorem rangeD_len : ∀ (lo : Int) (n : Nat), (rangeD lo n).length = n
  | _, 0 => rfl
  | lo, n + 1 => by
    show (rangeD (lo + 1) n).length + 1 = n + 1
    rw [rangeD_len]
theorem rangeD_get : ∀ (lo : Int) (n i : Nat), i < n → (rangeD lo n)[i]? = some (.int (lo + i))
  | _, 0, _, h => absurd h (Nat.not_lt_zero _)
  | lo, n + 1, 0, _ => by
    show some (D.int lo) = _
    simp
  | lo, n + 1, i + 1, h => by
    show (rangeD (lo + 1) n)[i]? = _
    rw [rangeD_get (lo + 1) n i (Nat.lt_of_succ_lt_succ h)]
    congr 2
    omega
theorem ok_range {F : Fr0} {fl : List Nat} {S : Sh} {lo : Int} {n : Nat} : ItOk F fl σ (Itr lo n) (rangeD lo n) S H := by
  intro S1 H1 x kp
  rw [rangeD_len]
  refine ⟨fun i hi => hi, Nat.le_refl n, fun i v H2 hi y => ?_⟩
  obtain ⟨rfl, rfl⟩ := y
  exact ⟨Same.refl _, _, rangeD_get lo n i hi, .int _⟩
theorem enumD_get : ∀ (k : Nat) (ds : List D) (i : Nat), (enumD k ds)[i]? = ds[i]?.map fun d => .tup [.int ((k + i : Nat) : Int), d]
  | _, [], _ => by simp [enumD]
  | k, d :: ds, 0 => by simp [enumD]
  | k, d :: ds, i + 1 => by
    show (enumD (k + 1) ds)[i]? = ds[i]?.map _
    rw [enumD_get (k + 1) ds i]
    have : k + 1 + i = k + (i + 1) := by omega
    rw [this]
theorem enumD_len : ∀ (k : Nat) (ds : List D), (enumD k ds).length = ds.length
  | _, [] => rfl
  | k, d :: ds => by
    show (enumD (k + 1) ds).length + 1 = ds.length + 1
    rw [enumD_len]
theorem ok_enum {F : Fr0} {fl : List Nat} {S : Sh} {a : Addr} {xs : List V} {ds : List D} (h : ∀ S1 H1, Ext S H S1 H1 → Keep fl σ H H1 → SqL F.K H1 a xs ∧ DenAll F.K F.FA S1 H1 xs ds) : ItOk F fl σ (Ite F.K a) (enumD 0 ds) S H := by
  intro S1 H1 x kp
  obtain ⟨h1, h2⟩ := h S1 H1 x kp
  rw [enumD_len]
  refine ⟨fun i hi => ?_, ⟨xs, h1, by rw [h2.length]; exact Nat.le_refl _⟩, fun i v H2 hi y => ?_⟩
  · obtain ⟨v, e, _⟩ := h2.get (List.getElem?_eq_getElem hi)
    exact ⟨xs, v, h1, e⟩
  · obtain ⟨T, w, rfl, hT, rfl, y⟩ := y
    obtain ⟨d, e, hd⟩ := h2.getV (y xs h1)
    have sm := same_upd (o := .tup [.int (i : Nat), w]) hT
    refine ⟨sm, .tup [.int ((0 + i : Nat) : Int), d], by rw [enumD_get, e]; rfl, .tup (SqT.of upd_same) (.cons ?_ (.cons (hd.same sm) .nil))⟩
    rw [Nat.zero_add]
    exact .int _
theorem zipD_get : ∀ (as bs : List D) (i : Nat) (a b : D), as[i]? = some a → bs[i]? = some b → (zipD as bs)[i]? = some (.tup [a, b])
  | [], _, _, _, _, h, _ => by simp at h
  | _ :: _, [], _, _, _, _, h => by simp at h
  | x :: as, y :: bs, 0, a, b, h1, h2 => by
    simp at h1 h2
    subst h1 h2
    rfl
  | x :: as, y :: bs, i + 1, a, b, h1, h2 => by
    show (zipD as bs)[i]? = _
    exact zipD_get as bs i a b (by simpa using h1) (by simpa using h2)
theorem zipD_len : ∀ (as bs : List D), (zipD as bs).length = min as.length bs.length
  | [], bs => by simp [zipD]
  | _ :: _, [] => by simp [zipD]
  | x :: as, y :: bs => by
    show (zipD as bs).length + 1 = _
    rw [zipD_len, List.length_cons, List.length_cons]
    omega
theorem ok_zip {F : Fr0} {fl : List Nat} {S : Sh} {a b : Addr} {xs ys : List V} {ds es : List D} (h : ∀ S1 H1, Ext S H S1 H1 → Keep fl σ H H1 → SqL F.K H1 a xs ∧ DenAll F.K F.FA S1 H1 xs ds) (h' : ∀ S1 H1, Ext S H S1 H1 → Keep fl σ H H1 → SqL F.K H1 b ys ∧ DenAll F.K F.FA S1 H1 ys es) : ItOk F fl σ (Itz F.K a b) (zipD ds es) S H := by
  intro S1 H1 x kp
  obtain ⟨h1, h2⟩ := h S1 H1 x kp
  obtain ⟨h3, h4⟩ := h' S1 H1 x kp
  rw [zipD_len]
  have l1 := h2.length
  have l2 := h4.length
  refine ⟨fun i hi => ?_, ⟨xs, ys, h1, h3, by omega⟩, fun i v H2 hi y => ?_⟩
  · obtain ⟨v, e, _⟩ := h2.get (List.getElem?_eq_getElem (show i < ds.length by omega))
    obtain ⟨v', e', _⟩ := h4.get (List.getElem?_eq_getElem (show i < es.length by omega))
    exact ⟨xs, ys, v, v', h1, h3, e, e'⟩
  · obtain ⟨T, w, w', rfl, hT, rfl, y1, y2⟩ := y
    obtain ⟨d, e, hd⟩ := h2.getV (y1 xs h1)
    obtain ⟨d', e', hd'⟩ := h4.getV (y2 ys h3)
    have sm := same_upd (o := .tup [w, w']) hT
    exact ⟨sm, .tup [d, d'], zipD_get _ _ _ _ _ e e', .tup (SqT.of upd_same) (.cons (hd.same sm) (.cons (hd'.same sm) .nil))⟩
theorem ok_zipT {F : Fr0} {fl : List Nat} {S : Sh} {a b : Addr} {xs ys : List V} {ds es : List D} (h : ∀ S1 H1, Ext S H S1 H1 → SqT F.K H1 a xs ∧ DenAll F.K F.FA S1 H1 xs ds) (h' : ∀ S1 H1, Ext S H S1 H1 → SqT F.K H1 b ys ∧ DenAll F.K F.FA S1 H1 ys es) : ItOk F fl σ (RZ.ItzT F.K a b) (zipD ds es) S H := by
  intro S1 H1 x kp
  obtain ⟨h1, h2⟩ := h S1 H1 x
  obtain ⟨h3, h4⟩ := h' S1 H1 x
  rw [zipD_len]
  have l1 := h2.length
  have l2 := h4.length
  refine ⟨fun i hi => ?_, ⟨xs, ys, h1, h3, by omega⟩, fun i v H2 hi y => ?_⟩
  · obtain ⟨v, e, _⟩ := h2.get (List.getElem?_eq_getElem (show i < ds.length by omega))
    obtain ⟨v', e', _⟩ := h4.get (List.getElem?_eq_getElem (show i < es.length by omega))
    exact ⟨xs, ys, v, v', h1, h3, e, e'⟩
  · obtain ⟨T, w, w', rfl, hT, rfl, y1, y2⟩ := y
    obtain ⟨d, e, hd⟩ := h2.getV (y1 xs h1)
    obtain ⟨d', e', hd'⟩ := h4.getV (y2 ys h3)
    have sm := same_upd (o := .tup [w, w']) hT
    exact ⟨sm, .tup [d, d'], zipD_get _ _ _ _ _ e e', .tup (SqT.of upd_same) (.cons (hd.same sm) (.cons (hd'.same sm) .nil))⟩

/-- an iterable and its text -/
structure SI (R0 : Rd0) (X : Cx) (it : It) (tg iter : Expr) : Prop where
  pi : PI X tg iter (tIt R0 it.muts (evIt R0.call it) (it.flags R0.F.own))
  fold : ∀ x, foldedSetIterable iter X.env x = pure x
theorem fold_of {e : Expr} (h : noSet e = true) (x : Value) : foldedSetIterable e X.env x = pure x := by
  cases e <;> first | rfl | cases h
theorem ni_seq (hX : XOk P R0 k X) (he : SE R0 X e x) (hw : e.w R0.F.own = true) (hn : noSet x = true) : SI R0 X (.seq e) tg x := by
  refine ⟨(pi_any (he.peI hw)).evImp fun σ H W h => ?_, fun v => fold_of hn v⟩
  obtain ⟨S, ρ, En, h⟩ := h
  have h' : KR ((evE R0.call e ρ).bind fun d ρ => R.opt ρ d.items) _ _ := h
  refine ⟨S, ρ, En, h'.bind.imp (fun d ρ1 h v S1 H1 N g => ?_) fun _ _ h => h⟩
  obtain ⟨ds, e1, q⟩ := KR.opt h
  rw [hX.hK]
  cases d with
  | lst es =>
    cases (show some es = some ds from e1)
    obtain ⟨a, xs, rfl, gg⟩ := g.seq
    have g0 := gg S1 H1 (Ext.refl _ _) fun _ _ _ _ _ h => h
    exact .inl ⟨a, xs, rfl, g0.1, q _ S1 H1 N (ok_list gg)⟩
  | tup es =>
    cases (show some es = some ds from e1)
    obtain ⟨a, xs, rfl, gg⟩ := g.tup
    have g0 := gg S1 H1 (Ext.refl _ _)
    exact .inr (.inl ⟨a, xs, rfl, g0.1, q _ S1 H1 N (ok_tup gg)⟩)
  | str s =>
    cases (show some (s.map fun c => D.str [c]) = some ds from e1)
    rw [g.str]
    exact .inr (.inr ⟨_, rfl, q _ S1 H1 N ok_str⟩)
  | _ => cases (show (none : Option (List D)) = some ds from e1)
theorem lst?_some {d : D} {ds : List D} (h : d.lst? = some ds) : d = .lst ds := by
  cases d <;> first | cases h; rfl | cases h
theorem ni_enum (hX : XOk P R0 k X) {elts : List Expr} {kk : Nat} {tp p pos : Pos} (hg : glB X.env.scope "enumerate" = true) (hp : plainA x = true) (he : SE R0 X e x) (hw : e.w R0.F.own = true) : SI R0 X (.enum e) (.Tuple elts kk tp) (.Call (.Name "enumerate" p) [x] [] pos) := by
  obtain ⟨g1, g2, g3⟩ := glB_of hg
  refine ⟨(pi_enum g1 (hX.nms _ (by decide)) (pa_cons (he.peI hw) pa_nil (starEach_cons hp)) (starEach_cons hp)).evImp fun σ H W h => ?_, fun v => rfl⟩
  obtain ⟨S, ρ, En, h⟩ := h
  have h' : KR ((evE R0.call e ρ).bind fun d ρ => R.opt ρ (d.lst?.map (enumD 0))) _ _ := h
  refine ⟨S, ρ, En, h'.bind.imp (fun d ρ1 h v S1 H1 N g => ?_) fun _ _ h => h⟩
  obtain ⟨ds, e1, q⟩ := KR.opt h
  rw [hX.hK]
  obtain ⟨es, e2, rfl⟩ := opt_map e1
  cases lst?_some e2
  obtain ⟨a, xs, rfl, gg⟩ := g.seq
  have g0 := gg S1 H1 (Ext.refl _ _) fun _ _ _ _ _ h => h
  exact ⟨a, xs, rfl, g0.1, q _ S1 H1 N (ok_enum gg)⟩
theorem ni_zip (hX : XOk P R0 k X) {elts : List Expr} {kk : Nat} {tp p pos : Pos} (hg : glB X.env.scope "zip" = true) (hp : plainA x = true) (hp2 : plainA y = true) (ha : SE R0 X a x) (hb : SE R0 X b y) (wa : a.w R0.F.own = true) (wb : b.w R0.F.own = true) (hq : a.st R0.F.own = true ∨ b.muts = []) : SI R0 X (.zip a b) (.Tuple elts kk tp) (.Call (.Name "zip" p) [x, y] [] pos) := by
  obtain ⟨g1, g2, g3⟩ := glB_of hg
  refine ⟨(RZ.pi_zipA g1 (hX.nms _ (by decide)) (pa_cons (ha.peI wa) (pa_cons (hb.peI wb) pa_nil (starEach_cons hp2)) (starEach_cons hp)) (starEach_cons hp) (back_cons hp2 back_nil)).evImp fun σ H W h => ?_, fun v => rfl⟩
  obtain ⟨S, ρ, En, h⟩ := h
  have h' : KR ((evE R0.call a ρ).bind fun d ρ => (evE R0.call b ρ).bind fun e ρ => R.opt ρ (zipDD d e)) _ _ := h
  refine ⟨S, ρ, En, h'.bind.imp (fun d ρ1 h v S1 H1 N1 g1 => ?_) fun x ρ1 h => h.less fun j => memL⟩
  refine ⟨S1, ρ1, N1.ok, h.bind.imp (fun d2 ρ2 h v2 S2 H2 N2 g2 => ?_) fun x ρ1 h => (h.back (N1.mono fun j => memL)).less fun j => memR⟩
  have N := (N1.mono (ms' := (It.zip a b).muts) fun j => memL).trans (N2.mono fun j => memR)
  obtain ⟨ds, e1, q⟩ := KR.opt h
  rw [hX.hK]
  have g1 := g1.step hq N2.stp
  cases d <;> cases d2 <;> first | cases e1; done | skip
  · obtain rfl := Option.some.inj e1
    obtain ⟨a', xs, rfl, k1⟩ := g1.tup
    obtain ⟨b', ys, rfl, k2⟩ := g2.tup
    exact ⟨a', b', xs, ys, rfl, .inr ⟨(k1 S2 H2 (Ext.refl _ _)).1, (k2 S2 H2 (Ext.refl _ _)).1, q _ S2 H2 N (ok_zipT k1 k2)⟩⟩
  · obtain rfl := Option.some.inj e1
    obtain ⟨a', xs, rfl, k1⟩ := g1.seq
    obtain ⟨b', ys, rfl, k2⟩ := g2.seq
    refine ⟨a', b', xs, ys, rfl, .inl ⟨(k1 S2 H2 (Ext.refl _ _) fun _ _ _ _ _ h => h).1, (k2 S2 H2 (Ext.refl _ _) fun _ _ _ _ _ h => h).1, q _ S2 H2 N (ok_zip (fun S3 H3 x kp => k1 S3 H3 x fun j hj => kp j (memL hj)) fun S3 H3 x kp => k2 S3 H3 x fun j hj => kp j (memR hj))⟩⟩
theorem ni_range1 (hX : XOk P R0 k X) {p pos : Pos} (hg : glB X.env.scope "range" = true) (hp : plainA x = true) (ha : SE R0 X a x) (sa : a.st R0.F.own = true) : SI R0 X (.range1 a) tg (.Call (.Name "range" p) [x] [] pos) := by
  obtain ⟨g1, g2, g3⟩ := glB_of hg
  refine ⟨(pi_range1 g1 (hX.nms _ (by decide)) (pa_cons (ha.peSt sa) pa_nil (starEach_cons hp)) (starEach_cons hp)).evImp fun σ H W h => ?_, fun v => rfl⟩
  obtain ⟨S, ρ, En, h⟩ := h
  have h' : KR ((evE R0.call a ρ).bind fun d ρ => R.opt ρ (d.toInt.bind fun i => if -(2 ^ 62) ≤ i ∧ i < 2 ^ 62 then some (rangeD 0 i.toNat) else none)) _ _ := h
  refine ⟨S, ρ, En, h'.bind.imp (fun d ρ1 h v S1 H1 N g => ?_) fun _ _ h => h⟩
  obtain ⟨ds, e1, q⟩ := KR.opt h
  obtain ⟨i, e2, e3⟩ := opt_bind e1
  cases toInt_some e2
  obtain ⟨hb, rfl⟩ := ite_some e3
  exact ⟨i, by rw [den_int g], hb.1, hb.2, q _ S1 H1 N ok_range⟩
theorem ni_range2 (hX : XOk P R0 k X) {p pos : Pos} (hg : glB X.env.scope "range" = true) (hp : plainA x = true) (hp2 : plainA y = true) (ha : SE R0 X a x) (hb : SE R0 X b y) (sa : a.st R0.F.own = true) (sb : b.st R0.F.own = true) : SI R0 X (.range2 a b) tg (.Call (.Name "range" p) [x, y] [] pos) := by
  obtain ⟨g1, g2, g3⟩ := glB_of hg
  refine ⟨(pi_range2 g1 (hX.nms _ (by decide)) (pa_cons (ha.peSt sa) (pa_cons (hb.peSt sb) pa_nil (starEach_cons hp2)) (starEach_cons hp)) (by rw [starEach_cons hp, starEach_cons hp2]; rfl) (by rw [starEach_cons hp2]; rfl)).evImp fun σ H W h => ?_, fun v => rfl⟩
  obtain ⟨S, ρ, En, h⟩ := h
  have h' : KR ((evE R0.call a ρ).bind fun d ρ => (evE R0.call b ρ).bind fun e ρ => R.opt ρ (d.toInt.bind fun i => e.toInt.bind fun j => if -(2 ^ 62) ≤ i ∧ i < 2 ^ 62 ∧ -(2 ^ 62) ≤ j ∧ j < 2 ^ 62 then some (rangeD i (j - i).toNat) else none)) _ _ := h
  refine ⟨S, ρ, En, h'.bind.imp (fun d ρ1 h v S1 H1 N1 g1 => ?_) fun x ρ1 h => h.less fun j => memL⟩
  refine ⟨S1, ρ1, N1.ok, h.bind.imp (fun d2 ρ2 h v2 S2 H2 N2 g2 => ?_) fun x ρ1 h => (h.back (N1.mono fun j => memL)).less fun j => memR⟩
  have N := (N1.mono (ms' := (It.range2 a b).muts) fun j => memL).trans (N2.mono fun j => memR)
  obtain ⟨ds, e1, q⟩ := KR.opt h
  obtain ⟨i, e2, e3⟩ := opt_bind e1
  obtain ⟨j, e4, e5⟩ := opt_bind e3
  cases toInt_some e2
  cases toInt_some e4
  obtain ⟨hb, rfl⟩ := ite_some e5
  exact ⟨i, j, by rw [den_int g1, den_int g2], hb, q _ S2 H2 N ok_range⟩
end
end EV
end
section
set_option autoImplicit false
/-! Ev12: comprehensions. -/
namespace EV
open PySem PySem.Spec PyProof.Rows L2

/-! ### slots forgotten, and back -/
theorem wipe_get {σ : St} {i : Nat} : ∀ {vs : List Nat}, (wipe σ vs)[i]? = if i ∈ vs then σ[i]?.map (fun _ => none) else σ[i]?
  | [] => by simp [wipe]
  | v :: vs => by
    show ((wipe σ vs).set v none)[i]? = _
    by_cases h : v = i
    · subst h
      rw [if_pos List.mem_cons_self]
      by_cases hl : v < (wipe σ vs).length
      · rw [List.getElem?_set_self hl]
        rw [wipe_length] at hl
        rw [List.getElem?_eq_getElem hl]
        rfl
      · rw [List.getElem?_eq_none (by rw [List.length_set]; omega)]
        rw [wipe_length] at hl
        rw [List.getElem?_eq_none (by omega)]
        rfl
    · rw [List.getElem?_set_ne h, wipe_get (vs := vs)]
      have : (i ∈ v :: vs) ↔ i ∈ vs := by
        rw [List.mem_cons]
        exact ⟨fun z => z.resolve_left fun z => h z.symm, .inr⟩
      by_cases hm : i ∈ vs
      · rw [if_pos hm, if_pos (this.mpr hm)]
      · rw [if_neg hm, if_neg (fun z => hm (this.mp z))]
theorem wipeE_len {ρ : EV.Env} : ∀ {vs : List Nat}, (wipeE ρ vs).length = ρ.length
  | [] => rfl
  | v :: vs => by
    show ((wipeE ρ vs).set v none).length = _
    rw [List.length_set, wipeE_len]
theorem wipeE_get {σ : EV.Env} {i : Nat} : ∀ {vs : List Nat}, (wipeE σ vs)[i]? = if i ∈ vs then σ[i]?.map (fun _ => none) else σ[i]?
  | [] => by simp [wipeE]
  | v :: vs => by
    show ((wipeE σ vs).set v none)[i]? = _
    by_cases h : v = i
    · subst h
      rw [if_pos List.mem_cons_self]
      by_cases hl : v < (wipeE σ vs).length
      · rw [List.getElem?_set_self hl]
        rw [wipeE_len] at hl
        rw [List.getElem?_eq_getElem hl]
        rfl
      · rw [List.getElem?_eq_none (by rw [List.length_set]; omega)]
        rw [wipeE_len] at hl
        rw [List.getElem?_eq_none (by omega)]
        rfl
    · rw [List.getElem?_set_ne h, wipeE_get (vs := vs)]
      have : (i ∈ v :: vs) ↔ i ∈ vs := by
        rw [List.mem_cons]
        exact ⟨fun z => z.resolve_left fun z => h z.symm, .inr⟩
      by_cases hm : i ∈ vs
      · rw [if_pos hm, if_pos (this.mpr hm)]
      · rw [if_neg hm, if_neg (fun z => hm (this.mp z))]
theorem backE_len {ρ0 ρ : EV.Env} : ∀ {vs : List Nat}, (backE ρ0 ρ vs).length = ρ.length
  | [] => rfl
  | v :: vs => by
    show ((backE ρ0 ρ vs).set v _).length = _
    rw [List.length_set, backE_len]
theorem backE_get {ρ0 ρ : EV.Env} {i : Nat} : ∀ {vs : List Nat}, (backE ρ0 ρ vs)[i]? = if i ∈ vs then ρ[i]?.map (fun _ => ρ0.getD i none) else ρ[i]?
  | [] => by simp [backE]
  | v :: vs => by
    show ((backE ρ0 ρ vs).set v (ρ0.getD v none))[i]? = _
    by_cases h : v = i
    · subst h
      rw [if_pos List.mem_cons_self]
      by_cases hl : v < (backE ρ0 ρ vs).length
      · rw [List.getElem?_set_self hl]
        rw [backE_len] at hl
        rw [List.getElem?_eq_getElem hl]
        rfl
      · rw [List.getElem?_eq_none (by rw [List.length_set]; omega)]
        rw [backE_len] at hl
        rw [List.getElem?_eq_none (by omega)]
        rfl
    · rw [List.getElem?_set_ne h, backE_get (vs := vs)]
      have : (i ∈ v :: vs) ↔ i ∈ vs := by
        rw [List.mem_cons]
        exact ⟨fun z => z.resolve_left fun z => h z.symm, .inr⟩
      by_cases hm : i ∈ vs
      · rw [if_pos hm, if_pos (this.mpr hm)]
      · rw [if_neg hm, if_neg (fun z => hm (this.mp z))]
theorem wipe_eq {a b : St} {vs : List Nat} (hl : a.length = b.length) (h : ∀ i, i ∉ vs → a[i]? = b[i]?) : wipe a vs = wipe b vs := by
  refine List.ext_getElem? fun i => ?_
  rw [wipe_get, wipe_get]
  by_cases hm : i ∈ vs
  · rw [if_pos hm, if_pos hm]
    by_cases hi : i < a.length
    · rw [List.getElem?_eq_getElem hi, List.getElem?_eq_getElem (by omega)]
      rfl
    · rw [List.getElem?_eq_none (by omega), List.getElem?_eq_none (by omega)]
  · rw [if_neg hm, if_neg hm]
    exact h i hm
theorem wipe_wipe {σ : St} {vs : List Nat} : wipe (wipe σ vs) vs = wipe σ vs := wipe_eq (wipe_length σ vs) fun i hi => by rw [wipe_get, if_neg hi]
theorem wipe_out {σ : St} {i : Nat} {vs : List Nat} (h : i ∉ vs) : (wipe σ vs)[i]? = σ[i]? := by rw [wipe_get, if_neg h]
theorem wipeE_out {σ : EV.Env} {i : Nat} {vs : List Nat} (h : i ∉ vs) : (wipeE σ vs)[i]? = σ[i]? := by rw [wipeE_get, if_neg h]
theorem backE_out {ρ0 σ : EV.Env} {i : Nat} {vs : List Nat} (h : i ∉ vs) : (backE ρ0 σ vs)[i]? = σ[i]? := by rw [backE_get, if_neg h]
theorem wipeE_in {σ : EV.Env} {i : Nat} {vs : List Nat} {d : D} (e : (wipeE σ vs)[i]? = some (some d)) : i ∉ vs := fun h => by
  rw [wipeE_get, if_pos h] at e
  cases q : σ[i]? with
  | none => rw [q] at e; cases e
  | some o => rw [q] at e; cases e
theorem backE_in {ρ0 σ : EV.Env} {i : Nat} {vs : List Nat} {d : D} (h : i ∈ vs) (e : (backE ρ0 σ vs)[i]? = some (some d)) : ρ0[i]? = some (some d) := by
  rw [backE_get, if_pos h] at e
  cases q : σ[i]? with
  | none => rw [q] at e; cases e
  | some o =>
    rw [q] at e
    exact getD_some (Option.some.inj e)

section
variable {F : Fr0} {S S' S1 : Sh} {H H' H1 : Hp} {σ σ1 : St} {ρ ρ0 ρ1 : EV.Env} {vs : List Nat} {D' : Addr}
theorem EnvOk.wipe (E : EnvOk F S H σ ρ) (hv : ∀ i ∈ vs, i ∉ F.own) : EnvOk F S H (L2.wipe σ vs) (wipeE ρ vs) where
  len := by rw [wipe_length, wipeE_len]; exact E.len
  sh := fun i d hi e => by
    have hn := wipeE_in e
    rw [wipeE_out hn] at e
    rw [wipe_out hn]
    exact E.sh i d hi e
  ow := fun i d hi e => by
    have hn : i ∉ vs := fun z => hv i z hi
    rw [wipeE_out hn] at e
    rw [wipe_out hn]
    exact E.ow i d hi e
  apart := fun i j a d e hi hj h1 h2 h3 h4 => by
    have hn : i ∉ vs := fun z => hv i z hi
    have hm : j ∉ vs := fun z => hv j z hj
    rw [wipeE_out hn] at h1
    rw [wipeE_out hm] at h2
    rw [wipe_out hn] at h3
    rw [wipe_out hm] at h4
    exact E.apart i j a d e hi hj h1 h2 h3 h4
  frame := E.frame
  live := E.live
  mine := fun i a d hi h1 h2 => by
    have hn : i ∉ vs := fun z => hv i z hi
    rw [wipeE_out hn] at h1
    rw [wipe_out hn] at h2
    exact E.mine i a d hi h1 h2
  inout := fun a h => by
    obtain ⟨h1, h2, h3⟩ := E.inout a h
    have hn : 0 ∉ vs := fun z => hv 0 z h1
    rw [wipe_out hn, wipeE_out hn]
    exact ⟨h1, h2, h3⟩
  un := fun i hi h => by
    have hn : i ∉ vs := fun z => hv i z hi
    rw [wipeE_out hn] at h
    rw [wipe_out hn]
    exact E.un i hi h
  entry := E.entry
theorem EnvOk.back (E : EnvOk F S H (L2.wipe σ vs) ρ) (E0 : EnvOk F S1 H1 σ ρ0) (hv : ∀ i ∈ vs, i ∉ F.own) (x : Ext S1 H1 S H) : EnvOk F S H σ (backE ρ0 ρ vs) where
  len := by rw [backE_len, ← E.len, wipe_length]
  sh := fun i d hi e => by
    by_cases hm : i ∈ vs
    · obtain ⟨v, h1, h2⟩ := E0.sh i d hi (backE_in hm e)
      exact ⟨v, h1, h2.ext x⟩
    · rw [backE_out hm] at e
      have := E.sh i d hi e
      rw [wipe_out hm] at this
      exact this
  ow := fun i d hi e => by
    have hn : i ∉ vs := fun z => hv i z hi
    rw [backE_out hn] at e
    have := E.ow i d hi e
    rw [wipe_out hn] at this
    exact this
  apart := fun i j a d e hi hj h1 h2 h3 h4 => by
    have hn : i ∉ vs := fun z => hv i z hi
    have hm : j ∉ vs := fun z => hv j z hj
    rw [backE_out hn] at h1
    rw [backE_out hm] at h2
    exact E.apart i j a d e hi hj h1 h2 (by rw [wipe_out hn]; exact h3) (by rw [wipe_out hm]; exact h4)
  frame := E.frame
  live := E.live
  mine := fun i a d hi h1 h2 => by
    have hn : i ∉ vs := fun z => hv i z hi
    rw [backE_out hn] at h1
    exact E.mine i a d hi h1 (by rw [wipe_out hn]; exact h2)
  inout := fun a h => by
    obtain ⟨h1, h2, h3⟩ := E.inout a h
    have hn : 0 ∉ vs := fun z => hv 0 z h1
    rw [wipe_out hn] at h2
    rw [backE_out hn]
    exact ⟨h1, h2, h3⟩
  un := fun i hi h => by
    have hn : i ∉ vs := fun z => hv i z hi
    rw [backE_out hn] at h
    have := E.un i hi h
    rw [wipe_out hn] at this
    exact this
  entry := E.entry
/-- a list that no slot knows and nothing shares is written -/
theorem EnvOk.write (E : EnvOk F S H σ ρ) {xs ys : List V} (ns : ¬ S D') (h : H D' = some (.lst xs)) (hD : ∀ j ∈ F.own, σ[j]? ≠ some (some (.ref D'))) (h0 : F.H0 D' = none) : EnvOk F S (upd H D' (.lst ys)) σ ρ where
  len := E.len
  sh := fun i d hi e => by
    obtain ⟨v, h1, h2⟩ := E.sh i d hi e
    exact ⟨v, h1, h2.ext (Ext.put ns h)⟩
  ow := fun i d hi e => by
    obtain ⟨v, h1, h2⟩ := E.ow i d hi e
    refine ⟨v, h1, h2.step (Ext.put ns h) fun a ea o ho => ?_⟩
    rw [upd_ne fun z => by subst z; subst ea; exact hD i hi h1]
    exact ho
  apart := E.apart
  frame := fun b o e n => by
    rw [upd_ne fun z => by subst z; rw [e] at h0; cases h0]
    exact E.frame b o e n
  live := fun b hb => by
    obtain ⟨o, e⟩ := E.live b hb
    exact (Ext.put (ys := ys) ns h).live b o e
  mine := E.mine
  inout := E.inout
  un := E.un
  entry := E.entry.trans (Ext.put ns h)
end

theorem KR.calm {α : Type} {r : R α} {ok : α → EV.Env → Prop} {ex ex' : Exc → EV.Env → Prop} (h : KR (R.calm r) ok ex) : KR r ok ex' := by
  cases r with
  | ok a ρ => exact h
  | exc x ρ => exact h.elim
  | bad => exact h
def Rd0.calm (R0 : Rd0) : Rd0 := { R0 with W := fun _ _ _ _ => False }
theorem It.flags_own {own : List Nat} {it : It} {j : Nat} (h : j ∈ it.flags own) : j ∈ own := by
  cases it with
  | seq e => exact E.flags_own h
  | enum e => exact E.flags_own h
  | zip a b => exact (List.mem_append.mp h).elim E.flags_own E.flags_own
  | range1 _ => cases h
  | range2 _ _ => cases h

section
variable {R0 : Rd0} {σ : St} {H : Hp} {Q : VK}
theorem comp_red {vs mc me mi fl : List Nat} {fi : EV.Env → R (List D)} {tg : Tg} {fc : EV.Env → R Bool} {fe : EV.Env → R D} {tt : TT} (hvo : ∀ i ∈ vs, i ∉ R0.F.own) (hts : ∀ i ∈ tg.slots, i ∈ vs) (hfo : ∀ j ∈ fl, j ∈ R0.F.own) (hfl : ∀ j ∈ fl, j ∉ mc ++ me) (hmo : ∀ j ∈ mc ++ me, j ∈ R0.F.own)
    (ht : ∀ σ H Q, tCv R0.calm mc fc σ H Q → tt σ H Q)
    (h : tG R0 (mi ++ (mc ++ me)) (fun ρ => (fi ρ).bind fun items ρ0 => if items.length ≤ sizeLine then (compGo (compF tg fc fe vs) items (wipeE ρ0 vs)).bind fun ds ρ4 => .ok (.lst ds) (backE ρ0 ρ4 vs) else .bad) (gNew R0.F) σ H Q) :
    tLc (tIt R0 mi fi fl) (gTg R0.F tg.slots tg.bind) tt (tG R0.calm me fe (gSt R0.F)) vs σ H Q := by
  obtain ⟨S, ρ, En, h⟩ := h
  refine ⟨S, ρ, En, h.bind.imp (fun items ρ0 h J S1 H1 N1 ok => ?_) fun x ρ1 h => h.less fun j => memL⟩
  intro D0 hD0
  by_cases hz : items.length ≤ sizeLine
  · rw [if_pos hz] at h
    have h := h.bind
    have E0 := N1.ok
    have hD : ∀ j ∈ R0.F.own, σ[j]? ≠ some (some (.ref D0)) := fun j hj e => by
      obtain ⟨d, q⟩ := E0.slot hj e
      obtain ⟨a, xs, ds, h1, _, h3, _⟩ := E0.addr hj q
      rw [e] at h1
      cases h1
      rw [hD0] at h3; cases h3
    have h0 : R0.F.H0 D0 = none := by
      cases q : R0.F.H0 D0 with
      | none => rfl
      | some o =>
        have hn : R0.F.io ≠ some D0 := fun z => hD 0 (E0.inout D0 z).1 (E0.inout D0 z).2.1
        have := E0.frame D0 o q hn
        rw [hD0] at this; cases this
    have nS1 : ¬ S1 D0 := fun z => by
      obtain ⟨o, e⟩ := E0.live D0 z
      rw [hD0] at e; cases e
    let Pv : Nat → Hp → Prop := fun i H2 => ∃ S2 ρ2 acc accV, EnvOk R0.F S2 H2 (wipe σ vs) ρ2 ∧ Stp S1 H1 (mc ++ me) σ S2 H2 ∧ (∀ i d, i ∉ vs → ρ2[i]? = some (some d) → ∃ e : D, ρ0[i]? = some (some e)) ∧ H2 D0 = some (.lst accV) ∧ ¬ S2 D0 ∧ DenAll R0.F.K R0.F.FA S2 H2 accV acc ∧ acc.length ≤ i ∧
      KR (compGo (compF tg fc fe vs) (items.drop i) ρ2) (fun ds ρ4 => ∀ v S' H', Nxt R0.F S H (mi ++ (mc ++ me)) σ ρ S' H' (backE ρ0 ρ4 vs) → gNew R0.F H S' H' σ v (.lst (acc ++ ds)) → Q v H') (R0.ex (mi ++ (mc ++ me)) S H σ ρ)
    have kp : ∀ S2 H2, Stp S1 H1 (mc ++ me) σ S2 H2 → Keep fl σ H1 H2 := fun S2 H2 st j hj a o e1 e2 => st.but a o e2 fun j' hj' e3 => by
      obtain ⟨d, q⟩ := E0.slot (hfo j hj) e1
      obtain ⟨d', q'⟩ := E0.slot (hmo j' hj') e3
      exact hfl j hj (E0.apart j j' a d d' (hfo j hj) (hmo j' hj') q q' e1 e3 ▸ hj')
    have w : Walk J items.length (fun H2 => ∃ S2, Stp S1 H1 (mc ++ me) σ S2 H2) (fun i H2 x H3 => Same H2 H3 ∧ ∀ S2, Stp S1 H1 (mc ++ me) σ S2 H2 → ∃ d, items[i]? = some d ∧ Den R0.F.K R0.F.FA S2 H3 x d) :=
      ⟨fun i H2 hi ⟨S2, st⟩ => (ok S2 H2 st.ext (kp S2 H2 st)).1 i hi, fun H2 ⟨S2, st⟩ => (ok S2 H2 st.ext (kp S2 H2 st)).2.1,
        fun i H2 x H3 hi ⟨S2, st⟩ y => ⟨((ok S2 H2 st.ext (kp S2 H2 st)).2.2 i x H3 hi y).1, fun S2 st => ((ok S2 H2 st.ext (kp S2 H2 st)).2.2 i x H3 hi y).2⟩⟩
    refine lc_it w Pv ?_ (fun i H2 _ ⟨S2, _, _, _, _, st, _⟩ => ⟨S2, st⟩) ?_ ?_
    · -- the start
      have sm := same_upd (o := .lst []) hD0
      refine ⟨S1, wipeE ρ0 vs, [], [], (E0.step (Ext.of_same sm) sm).wipe hvo, ⟨Ext.of_same sm, fun b o e _ => sm b o e⟩, fun i d hi e => ⟨d, by rw [wipeE_out hi] at e; exact e⟩, upd_same, nS1, .nil, Nat.le_refl _, ?_⟩
      exact h
    · -- a turn
      rintro i x H2 H3 hi ⟨S2, ρ2, acc, accV, E2, st2, dom2, hd2, ns2, da2, hl2, k2⟩ ⟨sm, hx⟩
      obtain ⟨d, hd, hden⟩ := hx S2 st2
      have hdrop : items.drop i = d :: items.drop (i + 1) := by
        rw [List.drop_eq_getElem_cons hi]
        rw [List.getElem?_eq_getElem hi] at hd
        rw [Option.some.inj hd]
      rw [hdrop] at k2
      have k2 : KR ((compF tg fc fe vs d ρ2).bind fun o ρ1 => (compGo (compF tg fc fe vs) (items.drop (i + 1)) ρ1).bind fun r ρ2 => .ok (o.toList ++ r) ρ2) _ _ := k2
      have k2 := (KR.calm (ex' := fun _ _ => False) k2.bind).bind
      obtain ⟨ρb, hb, k2⟩ := KR.opt k2
      have E3 : EnvOk R0.F S2 H3 (wipe σ vs) ρ2 := E2.step (Ext.of_same sm) sm
      refine ⟨S2, ρ2, d, ρb, E3, hden, hb, fun σ2 Eb c1 c2 cl => ?_⟩
      have hw : wipe σ2 vs = wipe σ vs := by
        rw [← wipe_wipe (σ := σ)]
        exact wipe_eq (by rw [Eb.len, cl, ← E3.len]) fun i hi => c1 i fun z => hi (hts i z)
      have hown : ∀ j ∈ R0.F.own, σ2[j]? = σ[j]? := fun j hj => by
        have hn : j ∉ vs := fun z => hvo j z hj
        rw [c1 j (fun z => hn (hts j z)), wipe_out hn]
      -- what the turn's parts keep
      have keepb : ∀ {ms : List Nat} {S4 : Sh} {Ha Hb : Hp} {Sa : Sh}, (∀ j ∈ ms, j ∈ mc ++ me) → Stp Sa Ha ms σ2 S4 Hb → ∀ b o, Ha b = some o → (∀ j ∈ mc ++ me, σ[j]? ≠ some (some (.ref b))) → Hb b = some o := fun {ms S4 Ha Hb Sa} hm st b o e kk => st.but b o e fun j hj => by
        rw [hown j (hmo j (hm j hj))]
        exact kk j (hm j hj)
      have fin : ∀ (S4 : Sh) (H4 : Hp) (ρ4 : EV.Env) (acc' : List D) (accV' : List V), Nxt R0.F S2 H3 (mc ++ me) σ2 ρb S4 H4 ρ4 → ∀ (H5 : Hp), EnvOk R0.F S4 H5 (wipe σ vs) (wipeE ρ4 vs) → Ext S4 H4 S4 H5 → (∀ b o, H4 b = some o → b ≠ D0 → H5 b = some o) → H5 D0 = some (.lst accV') → ¬ S4 D0 → DenAll R0.F.K R0.F.FA S4 H5 accV' acc' → acc'.length ≤ i + 1 →
          KR (compGo (compF tg fc fe vs) (items.drop (i + 1)) (wipeE ρ4 vs)) (fun ds ρ4 => ∀ v S' H', Nxt R0.F S H (mi ++ (mc ++ me)) σ ρ S' H' (backE ρ0 ρ4 vs) → gNew R0.F H S' H' σ v (.lst (acc' ++ ds)) → Q v H') (R0.ex (mi ++ (mc ++ me)) S H σ ρ) → Pv (i + 1) H5 := by
        intro S4 H4 ρ4 acc' accV' N H5 E5 x5 b5 d5 n5 da5 l5 k5
        refine ⟨S4, wipeE ρ4 vs, acc', accV', E5, ⟨(st2.ext.trans (Ext.of_same sm)).trans (N.stp.ext.trans x5), fun b o e kk => ?_⟩, fun i d hi e => ?_, d5, n5, da5, l5, k5⟩
        · refine b5 b o (keepb (fun j h => h) N.stp b o (sm b o (st2.but b o e kk)) kk) fun z => ?_
          subst z
          rw [hD0] at e; cases e
        · rw [wipeE_out hi] at e
          obtain ⟨e1, q1⟩ := N.dom i d e
          rw [c2 i (fun z => hi (hts i z))] at q1
          exact dom2 i e1 hi q1
      have hd3 : H3 D0 = some (.lst accV) := sm D0 _ hd2
      have hDms : ∀ j ∈ mc ++ me, σ[j]? ≠ some (some (.ref D0)) := fun j hj => hD j (hmo j hj)
      refine ⟨hw, ht σ2 H3 _ ⟨S2, ρb, Eb, k2.bind.imp (fun t ρ3 k3 S3 H4 N3 => ?_) fun _ _ h => h.elim⟩⟩
      have hd4 : H4 D0 = some (.lst accV) := keepb (fun j h => memL h) N3.stp D0 _ hd3 hDms
      have ns4 : ¬ S3 D0 := fun z => by
        rcases N3.stp.ext.new D0 z with z | ⟨z, _⟩
        · exact ns2 z
        · rw [hd3] at z; cases z
      cases t with
      | false =>
        show Pv (i + 1) H4
        rw [if_neg Bool.false_ne_true] at k3
        refine fin S3 H4 ρ3 acc accV (N3.mono fun j => memL) H4 (by rw [← hw]; exact N3.ok.wipe hvo) (Ext.refl _ _) (fun b o e _ => e) hd4 ns4 ((da2.ext (Ext.of_same sm)).ext N3.stp.ext) (Nat.le_succ_of_le hl2) ?_
        have k3 : KR ((compGo (compF tg fc fe vs) (items.drop (i + 1)) (wipeE ρ3 vs)).bind fun r ρ2 => .ok r ρ2) _ _ := k3
        exact k3.bind
      | true =>
        show tG R0.calm me fe (gSt R0.F) σ2 H4 _
        rw [if_pos rfl] at k3
        refine ⟨S3, ρ3, N3.ok, k3.bind.imp (fun dv ρ4 k4 v S4 H5 N4 g4 => ?_) fun _ _ h => h.elim⟩
        have hd5 : H5 D0 = some (.lst accV) := keepb (fun j h => memR h) N4.stp D0 _ hd4 hDms
        have ns5 : ¬ S4 D0 := fun z => by
          rcases N4.stp.ext.new D0 z with z | ⟨z, _⟩
          · exact ns4 z
          · rw [hd4] at z; cases z
        have x5 : Ext S4 H5 S4 (upd H5 D0 (.lst (accV ++ [v]))) := Ext.put ns5 hd5
        refine ⟨accV, hd5, by rw [da2.length]; omega, ?_⟩
        refine fin S4 H5 ρ4 (acc ++ [dv]) (accV ++ [v]) ((N3.mono fun j => memL).trans (N4.mono fun j => memR)) _ ?_ x5 (fun b o e z => by rw [upd_ne z]; exact e) upd_same ns5
          (((((da2.ext (Ext.of_same sm)).ext N3.stp.ext).ext N4.stp.ext).append (.cons g4 .nil)).ext x5) (by rw [List.length_append]; exact Nat.succ_le_succ hl2) ?_
        · refine EnvOk.write (by rw [← hw]; exact N4.ok.wipe hvo) ns5 hd5 (fun j hj => ?_) h0
          rw [wipe_out (fun z => hvo j z hj)]
          exact hD j hj
        · have k4 : KR ((compGo (compF tg fc fe vs) (items.drop (i + 1)) (wipeE ρ4 vs)).bind fun r ρ2 => .ok (dv :: r) ρ2) _ _ := k4
          exact k4.bind.imp (fun ds ρ5 q v S' H' N g => q v S' H' N (by rw [List.append_assoc] at g; exact g)) fun _ _ h => h
    · -- the end
      rintro H2 ⟨S2, ρ2, acc, accV, E2, st2, dom2, hd2, ns2, da2, hl2, k2⟩
      rw [List.drop_length] at k2
      have k2 : ∀ v S' H', Nxt R0.F S H (mi ++ (mc ++ me)) σ ρ S' H' (backE ρ0 ρ2 vs) → gNew R0.F H S' H' σ v (.lst (acc ++ [])) → Q v H' := k2
      rw [List.append_nil] at k2
      refine k2 (.ref D0) S2 H2 ((N1.mono fun j => memL).trans ⟨st2.mono fun j => memR, E2.back E0 hvo st2.ext, fun i d e => ?_⟩) (.inl ⟨⟨D0, accV, acc, rfl, ns2, hd2, rfl, da2⟩, fun a e => ?_⟩)
      · by_cases hm : i ∈ vs
        · exact ⟨d, backE_in hm e⟩
        · rw [backE_out hm] at e
          exact dom2 i d hm e
      · cases e
        cases q : H D0 with
        | none => rfl
        | some o =>
          obtain ⟨o', e'⟩ := N1.stp.ext.live D0 o q
          rw [hD0] at e'; cases e'
  · rw [if_neg hz] at h
    exact h.elim
end

section
variable {P : Pg} {R0 : Rd0} {k : Nat} {X : Cx} {sc scope : Scope} {vs : List (Str × Nat)} {it : It} {tg : Tg} {c elt : E} {ast x t iter : Expr} {pos : Pos}
theorem XOk.blk (hX : XOk P R0 k X) {s : Shared} {H : Hp} {cl : List (Str × Addr)} {C : Addr} {fp : List Addr} : XOk P R0.calm k (X.blk s H scope (compEnvC scope cl C X.env) fp) where
  calm := hX.calm
  room := hX.room
  nd := hX.nd
  hK := hX.hK
  takes := takes_none5
  nms := hX.nms
  cls := hX.cls
  defs := hX.defs
  fns := hX.fns
  lens := hX.lens
  consts := hX.consts
theorem blkOk_sx (hs : SX sc X) (h : blkC X.N sc scope vs = true) : BlkOk X.N X.env.scope scope vs := by
  have b := blkOk_by h
  refine ⟨b.kind, b.uniq, b.ix, fun y hy e => ?_, b.own⟩
  rcases b.free y hy e with q | q
  · exact .inl (hs.ce _ q)
  · exact (hs.fr _ q).symm
theorem comp_pe (hX : XOk P R0 k X) (hs : SX sc X) (hb : blkC X.N sc scope vs = true) (hi : SI R0 X it t iter) (ht : chkT X.N scope tg t = true)
    (he : ∀ (s : Shared) (H : Hp) (C : Addr) (cl : List (Str × Addr)) (fp : List Addr), SE R0.calm (X.blk s H scope (compEnvC scope cl C X.env) fp) elt ast) (se : elt.st R0.F.own = true) (hvo : ∀ i ∈ vs.map (·.2), i ∉ R0.F.own) (hts : ∀ i ∈ tg.slots, i ∈ vs.map (·.2)) (hfl : ∀ j ∈ it.flags R0.F.own, j ∉ elt.muts) (hmo : ∀ j ∈ elt.muts, j ∈ R0.F.own) :
    PE X (.ListComp ast [⟨t, iter, [], 0⟩] scope pos) (tG R0 (E.comp vs tg it elt).muts (evE R0.call (.comp vs tg it elt)) (gE R0.F (.comp vs tg it elt))) := by
  refine (pe_lc hX.calm hX.nd hi.pi (blkOk_sx hs hb) (fun s H C cl fp => soundT (hX.blk (s := s) (H := H) (cl := cl) (C := C) (fp := fp)) SX.blk tg ht fun i hi => hvo i (hts i hi)) (fun s H C cl fp => pts_nil) (fun s H C cl fp => (he s H C cl fp).peSt se) hi.fold).evImp fun σ H Q h => ?_
  rw [ge_new rfl] at h
  exact comp_red (mc := []) hvo hts (fun j => It.flags_own) hfl hmo (fun σ H Q h => tCv.ok (b := true) h) h
theorem comp_peIf (hX : XOk P R0 k X) (hs : SX sc X) (hb : blkC X.N sc scope vs = true) (hi : SI R0 X it t iter) (ht : chkT X.N scope tg t = true)
    (hc : ∀ (s : Shared) (H : Hp) (C : Addr) (cl : List (Str × Addr)) (fp : List Addr), SE R0.calm (X.blk s H scope (compEnvC scope cl C X.env) fp) c x) (wc : c.w R0.F.own = true)
    (he : ∀ (s : Shared) (H : Hp) (C : Addr) (cl : List (Str × Addr)) (fp : List Addr), SE R0.calm (X.blk s H scope (compEnvC scope cl C X.env) fp) elt ast) (se : elt.st R0.F.own = true) (hvo : ∀ i ∈ vs.map (·.2), i ∉ R0.F.own) (hts : ∀ i ∈ tg.slots, i ∈ vs.map (·.2)) (hfl : ∀ j ∈ it.flags R0.F.own, j ∉ c.muts ++ elt.muts) (hmo : ∀ j ∈ c.muts ++ elt.muts, j ∈ R0.F.own) :
    PE X (.ListComp ast [⟨t, iter, [x], 0⟩] scope pos) (tG R0 (E.compIf vs tg it c elt).muts (evE R0.call (.compIf vs tg it c elt)) (gE R0.F (.compIf vs tg it c elt))) := by
  refine (pe_lc hX.calm hX.nd hi.pi (blkOk_sx hs hb) (fun s H C cl fp => soundT (hX.blk (s := s) (H := H) (cl := cl) (C := C) (fp := fp)) SX.blk tg ht fun i hi => hvo i (hts i hi)) (fun s H C cl fp => pts_one ((hc s H C cl fp).pt wc)) (fun s H C cl fp => (he s H C cl fp).peSt se) hi.fold).evImp fun σ H Q h => ?_
  rw [ge_new rfl] at h
  exact comp_red hvo hts (fun j => It.flags_own) hfl hmo (fun σ H Q h => h) h
end
end EV
end
section
set_option autoImplicit false
/-! Ev13: every term that fits its text is sound. -/
namespace EV
open PySem PySem.Spec PyProof.Rows L2

theorem all_mem {p : Nat → Bool} {l : List Nat} (h : l.all p = true) {i : Nat} (hi : i ∈ l) : p i = true := List.all_eq_true.mp h i hi
theorem cont_mem {l : List Nat} {i : Nat} (h : l.contains i = true) : i ∈ l := List.contains_iff_mem.mp h
theorem ncont_mem {l : List Nat} {i : Nat} (h : (!l.contains i) = true) : i ∉ l := fun z => by
  rw [List.contains_iff_mem.mpr z] at h
  cases h
theorem orst {own : List Nat} {a : E} {ms : List Nat} (h : (a.st own || ms.isEmpty) = true) : a.st own = true ∨ ms = [] := by
  rw [Bool.or_eq_true] at h
  exact h.imp (fun h => h) List.isEmpty_iff.mp
theorem of_def {P : Pg} {f : Nat} {b : DefI → Bool} (h : (match P.defs[f]? with | some di => b di | none => false) = true) : ∃ di, P.defs[f]? = some di ∧ b di = true := by
  split at h
  · exact ⟨_, by assumption, h⟩
  · cases h
mutual
theorem soundE {P : Pg} : ∀ (e : E) {R0 : Rd0} {k : Nat} {X : Cx} {sc : Scope} {ast : Expr}, XOk P R0 k X → SX sc X → chkE P R0.F.own X.N e sc ast = true → SE R0 X e ast
  | e, R0, k, X, sc, ast, hX, hs, h => by
    unfold chkE at h
    split at h
    · exact n_lit hX h
    · simp only [Bool.and_eq_true, decide_eq_true_eq] at h
      exact n_var hX h.1 (hs.visB h.2)
    · simp only [Bool.and_eq_true, beq_iff_eq] at h
      obtain ⟨⟨rfl, h2⟩, h3⟩ := h
      exact n_glob hX (hs.glB h2) h3
    · obtain ⟨di, hd, hb⟩ := of_def h
      simp only [Bool.and_eq_true, beq_iff_eq, Bool.not_eq_true'] at hb
      obtain ⟨⟨⟨rfl, h2⟩, h3⟩, h4⟩ := hb
      exact n_fn hX hd h3 h4 (hs.glB h2)
    · split at h
      · rename_i u a _ x hu
        rw [Bool.and_eq_true] at h
        exact n_un hX (U.shape_mono hs hu) (soundE a hX hs h.1) h.2
      · cases h
    · split at h
      · rename_i b a c _ x y hb
        simp only [Bool.and_eq_true] at h
        obtain ⟨⟨⟨⟨h1, h2⟩, h3⟩, h4⟩, h5⟩ := h
        exact n_bin hX (B.shape_mono hs hb) (soundE a hX hs h1) (soundE c hX hs h2) h3 h4 (orst h5) (hu65 hX.room)
      · cases h
    · rename_i a l x l' _ _
      simp only [Bool.and_eq_true] at h
      obtain ⟨⟨⟨⟨h1, h2⟩, h3⟩, h4⟩, h5⟩ := h
      exact n_slL hX (soundE a hX hs h1) (soundE l hX hs h2) h3 h4 (orst h5)
    · rename_i a l x l' _ _
      simp only [Bool.and_eq_true] at h
      obtain ⟨⟨⟨⟨h1, h2⟩, h3⟩, h4⟩, h5⟩ := h
      exact n_slH hX (soundE a hX hs h1) (soundE l hX hs h2) h3 h4 (orst h5)
    · rename_i a l hh x l' h' _ _
      simp only [Bool.and_eq_true, Bool.or_eq_true] at h
      obtain ⟨⟨⟨⟨⟨⟨h1, h2⟩, h3⟩, h4⟩, h5⟩, h6⟩, h7⟩ := h
      exact n_slLH hX (soundE a hX hs h1) (soundE l hX hs h2) (soundE hh hX hs h3) h4 h5 h6 (h7.imp (fun h => h) fun h => ⟨List.isEmpty_iff.mp h.1, List.isEmpty_iff.mp h.2⟩)
    · rename_i es xs _ _
      exact n_tup hX (soundEs es hX hs h)
    · rename_i es xs _
      rw [Bool.and_eq_true] at h
      exact n_lst hX (soundEs es hX hs h.1) (List.isEmpty_iff.mp h.2)
    · rename_i a b x y r pos
      simp only [Bool.and_eq_true] at h
      obtain ⟨⟨⟨h1, h2⟩, h3⟩, h4⟩ := h
      refine n_and hX (soundE a hX hs h1) ?_ h2 h3
      cases r with
      | nil => exact soundE b hX hs h4
      | cons z r => exact soundE b hX hs h4
    · rename_i a b x y r pos
      simp only [Bool.and_eq_true] at h
      obtain ⟨⟨⟨h1, h2⟩, h3⟩, h4⟩ := h
      refine n_or hX (soundE a hX hs h1) ?_ h2 h3
      cases r with
      | nil => exact soundE b hX hs h4
      | cons z r => exact soundE b hX hs h4
    · rename_i a x _
      rw [Bool.and_eq_true] at h
      exact n_not hX (soundE a hX hs h.1) h.2
    · rename_i c a b x y z _
      simp only [Bool.and_eq_true] at h
      obtain ⟨⟨⟨⟨⟨h1, h2⟩, h3⟩, h4⟩, h5⟩, h6⟩ := h
      exact n_ite hX (soundE c hX hs h1) (soundE a hX hs h2) (soundE b hX hs h3) h4 h5 h6
    · rename_i o p a b c x o' p' y z _
      simp only [Bool.and_eq_true, decide_eq_true_eq] at h
      obtain ⟨⟨⟨⟨⟨⟨⟨⟨⟨rfl, rfl⟩, h3⟩, h4⟩, h5⟩, h6⟩, h7⟩, h8⟩, h9⟩, h10⟩ := h
      exact n_chain hX (soundE a hX hs h5) (soundE b hX hs h6) (soundE c hX hs h7) h8 h9 h10 h3 h4
    · rename_i fl fr f es y p xs _
      simp only [Bool.and_eq_true] at h
      obtain ⟨⟨h1, h2⟩, h3⟩ := h
      obtain ⟨di, hd, hb⟩ := of_def h1
      simp only [Bool.and_eq_true, beq_iff_eq, Bool.not_eq_true', decide_eq_true_eq, Bool.or_eq_true] at hb
      obtain ⟨⟨⟨⟨rfl, g2⟩, g3⟩, g4⟩, g5⟩ := hb
      rw [Bool.or_eq_true] at h3
      exact n_call hX hd g3 (hs.glB g2) g4 g5 (h3.imp (fun h => h) List.isEmpty_iff.mp) (soundEs es hX hs h2)
    · rename_i f i es y p x p2 xs _
      simp only [Bool.and_eq_true, decide_eq_true_eq] at h
      obtain ⟨⟨⟨⟨⟨h1, h2⟩, h3⟩, h4⟩, h5⟩, h6⟩ := h
      obtain ⟨di, hd, hb⟩ := of_def h1
      simp only [Bool.and_eq_true, beq_iff_eq, Bool.not_eq_true'] at hb
      obtain ⟨⟨⟨rfl, g2⟩, g3⟩, g4⟩ := hb
      exact n_callIo hX hd g3 g4 (hs.glB g2) h2 (hs.visB h3) (cont_mem h4) (List.isEmpty_iff.mp h6) (soundEs es hX hs h5)
    · rename_i f a es y p x xs _
      simp only [Bool.and_eq_true] at h
      obtain ⟨⟨⟨⟨⟨⟨⟨h1, h2⟩, h3⟩, h4⟩, h5⟩, h6⟩, h7⟩, h8⟩ := h
      obtain ⟨di, hd, hb⟩ := of_def h1
      simp only [Bool.and_eq_true, beq_iff_eq, Bool.not_eq_true'] at hb
      obtain ⟨⟨⟨rfl, g2⟩, g3⟩, g4⟩ := hb
      exact n_callT hX hd g3 g4 (hs.glB g2) h3 (soundE a hX hs h2) h4 (List.isEmpty_iff.mp h7) (List.isEmpty_iff.mp h8) (soundEs es hX hs h6)
    · rename_i g es y xs _
      simp only [Bool.and_eq_true] at h
      obtain ⟨⟨⟨⟨h1, h2⟩, h3⟩, h4⟩, h5⟩ := h
      exact n_callv hX h3 (soundE g hX hs h1) h2 (soundEs es hX hs h4) (List.isEmpty_iff.mp h5)
    · rename_i i e x p n ap y cp
      simp only [Bool.and_eq_true, decide_eq_true_eq] at h
      obtain ⟨⟨⟨⟨⟨⟨⟨h1, h2⟩, h3⟩, h4⟩, h5⟩, h6⟩, h7⟩, h8⟩ := h
      have h1 := eq_of_beq h1
      subst h1
      exact n_pop hX h2 h3 h4 (hs.visB h5) (cont_mem h6) (soundE e hX hs h7) h8
    · rename_i vs tg it e elt t iter scope _
      simp only [Bool.and_eq_true] at h
      obtain ⟨⟨⟨⟨⟨⟨⟨⟨h1, h2⟩, h3⟩, h4⟩, h5⟩, h6⟩, h7⟩, h8⟩, h9⟩ := h
      refine pt_plain hX (comp_pe hX hs h1 (soundI it hX hs h3) h2 (fun s H C cl fp => soundE e (hX.blk (s := s) (H := H) (cl := cl) (C := C) (fp := fp)) SX.blk h4) h5 (fun i hi => ncont_mem (all_mem h9 hi)) (fun i hi => cont_mem (all_mem h8 hi)) (fun j hj => ncont_mem (all_mem h6 hj)) fun j hj => cont_mem (all_mem h7 hj)) fun _ => rfl
    · rename_i vs tg it c e elt t iter x scope _
      simp only [Bool.and_eq_true] at h
      obtain ⟨⟨⟨⟨⟨⟨⟨⟨⟨⟨h1, h2⟩, h3⟩, h4⟩, h5⟩, h6⟩, h7⟩, h8⟩, h9⟩, h10⟩, h11⟩ := h
      refine pt_plain hX (comp_peIf hX hs h1 (soundI it hX hs h3) h2 (fun s H C cl fp => soundE c (hX.blk (s := s) (H := H) (cl := cl) (C := C) (fp := fp)) SX.blk h4) h6 (fun s H C cl fp => soundE e (hX.blk (s := s) (H := H) (cl := cl) (C := C) (fp := fp)) SX.blk h5) h7 (fun i hi => ncont_mem (all_mem h11 hi)) (fun i hi => cont_mem (all_mem h10 hi)) (fun j hj => ncont_mem (all_mem h8 hj)) fun j hj => cont_mem (all_mem h9 hj)) fun _ => rfl
    · cases h
termination_by e => sizeOf e
theorem soundEs {P : Pg} : ∀ (es : Es) {R0 : Rd0} {k : Nat} {X : Cx} {sc : Scope} {xs : List Expr}, XOk P R0 k X → SX sc X → chkEs P R0.F.own X.N es sc xs = true → SEs R0 X es xs
  | es, R0, k, X, sc, xs, hX, hs, h => by
    unfold chkEs at h
    split at h
    · exact ns_nil
    · rename_i e es x xs
      simp only [Bool.and_eq_true] at h
      obtain ⟨⟨⟨h1, h2⟩, h3⟩, h4⟩ := h
      exact ns_cons h1 (soundE e hX hs h2) (soundEs es hX hs h3) (orst h4)
    · cases h
termination_by es => sizeOf es
theorem soundI {P : Pg} : ∀ (it : It) {R0 : Rd0} {k : Nat} {X : Cx} {sc : Scope} {iter tg : Expr}, XOk P R0 k X → SX sc X → chkI P R0.F.own X.N it sc iter tg = true → SI R0 X it tg iter
  | it, R0, k, X, sc, iter, tg, hX, hs, h => by
    unfold chkI at h
    split at h
    · rename_i e
      simp only [Bool.and_eq_true] at h
      exact ni_seq hX (soundE e hX hs h.1.1) h.1.2 h.2
    · rename_i e f p x pos elts kk tp
      simp only [Bool.and_eq_true, beq_iff_eq] at h
      obtain ⟨⟨⟨⟨rfl, h2⟩, h3⟩, h4⟩, h5⟩ := h
      exact ni_enum hX (hs.glB h2) h3 (soundE e hX hs h4) h5
    · rename_i a b f p x y pos elts kk tp
      simp only [Bool.and_eq_true, beq_iff_eq] at h
      obtain ⟨⟨⟨⟨⟨⟨⟨⟨rfl, h2⟩, h3⟩, h4⟩, h5⟩, h6⟩, h7⟩, h8⟩, h9⟩ := h
      exact ni_zip hX (hs.glB h2) h3 h4 (soundE a hX hs h5) (soundE b hX hs h6) h7 h8 (orst h9)
    · rename_i a f p x pos
      simp only [Bool.and_eq_true, beq_iff_eq] at h
      obtain ⟨⟨⟨⟨rfl, h2⟩, h3⟩, h4⟩, h5⟩ := h
      exact ni_range1 hX (hs.glB h2) h3 (soundE a hX hs h4) h5
    · rename_i a b f p x y pos
      simp only [Bool.and_eq_true, beq_iff_eq] at h
      obtain ⟨⟨⟨⟨⟨⟨⟨rfl, h2⟩, h3⟩, h4⟩, h5⟩, h6⟩, h7⟩, h8⟩ := h
      exact ni_range2 hX (hs.glB h2) h3 h4 (soundE a hX hs h5) (soundE b hX hs h6) h7 h8
    · cases h
termination_by it => sizeOf it
end
end EV
end
section
set_option autoImplicit false
/-! Ev14: statements. -/
namespace EV
open PySem PySem.Spec PyProof.Rows L2

/-! ### from statement to statement -/
structure NxS (F : Fr0) (S : Sh) (H : Hp) (σ : St) (tk : List Nat) (S' : Sh) (H' : Hp) (σ' : St) (ρ' : EV.Env) : Prop where
  ext : Ext S H S' H'
  ok : EnvOk F S' H' σ' ρ'
  keep : ∀ j ∈ F.own, j ∉ tk → σ'[j]? = σ[j]? ∧ ∀ a o, σ[j]? = some (some (.ref a)) → H a = some o → H' a = some o
section
variable {F : Fr0} {S S' S1 S2 : Sh} {H H' H1 H2 : Hp} {σ σ' σ1 σ2 : St} {ρ ρ' ρ1 ρ2 : EV.Env} {ms tk tk' : List Nat}
theorem NxS.refl (E : EnvOk F S H σ ρ) : NxS F S H σ tk S H σ ρ := ⟨Ext.refl _ _, E, fun _ _ _ => ⟨rfl, fun _ _ _ h => h⟩⟩
theorem NxS.trans (a : NxS F S H σ tk S1 H1 σ1 ρ1) (b : NxS F S1 H1 σ1 tk S2 H2 σ2 ρ2) : NxS F S H σ tk S2 H2 σ2 ρ2 :=
  ⟨a.ext.trans b.ext, b.ok, fun j hj hn => by
    obtain ⟨a1, a2⟩ := a.keep j hj hn
    obtain ⟨b1, b2⟩ := b.keep j hj hn
    exact ⟨b1.trans a1, fun p o h1 h2 => b2 p o (a1.trans h1) (a2 p o h1 h2)⟩⟩
theorem NxS.mono (a : NxS F S H σ tk S1 H1 σ1 ρ1) (h : ∀ j ∈ tk, j ∈ tk') : NxS F S H σ tk' S1 H1 σ1 ρ1 := ⟨a.ext, a.ok, fun j hj hn => a.keep j hj fun z => hn (h j z)⟩
theorem Nxt.nxs (N : Nxt F S H ms σ ρ S' H' ρ') (E : EnvOk F S H σ ρ) (ho : ∀ j ∈ ms, j ∈ F.own) (hm : ∀ j ∈ ms, j ∈ tk) : NxS F S H σ tk S' H' σ ρ' :=
  ⟨N.stp.ext, N.ok, fun j hj hn => ⟨rfl, fun a o e1 e2 => N.stp.but a o e2 fun j' hj' e3 => by
    obtain ⟨d, q⟩ := E.slot hj e1
    obtain ⟨d', q'⟩ := E.slot (ho j' hj') e3
    exact hn (E.apart j j' a d d' hj (ho j' hj') q q' e1 e3 ▸ hm j' hj')⟩⟩
theorem NxS.same (E : EnvOk F S' H' σ' ρ') (x : Ext S H S' H') (h : ∀ j ∈ F.own, j ∉ tk → σ'[j]? = σ[j]?) (s : Same H H') : NxS F S H σ tk S' H' σ' ρ' := ⟨x, E, fun j hj hn => ⟨h j hj hn, fun a o _ e => s a o e⟩⟩
end

def RetOk (F : Fr0) (fr : Bool) (S' : Sh) (H' : Hp) (v : V) (d : D) (ρ' : EV.Env) : Prop :=
  Ext F.S0 F.H0 S' H' ∧ (∀ b o, F.H0 b = some o → F.io ≠ some b → H' b = some o) ∧ (∀ a, F.io = some a → ∃ out, ρ'.getD 0 none = some out ∧ Own F.K F.FA S' H' (.ref a) out) ∧
    if fr = true then (Own F.K F.FA S' H' v d ∧ ∀ a, v = .ref a → F.H0 a = none) ∨ ((∀ ds, d ≠ .lst ds) ∧ Den F.K F.FA S' H' v d) else Den F.K F.FA S' H' v d
def Rd0.exS (R0 : Rd0) (tk : List Nat) (S : Sh) (H : Hp) (σ : St) : Exc → EV.Env → Prop := fun x ρ' =>
  ∀ c dd σ' S' H', NxS R0.F S H σ tk S' H' σ' ρ' → ExcDen R0.F.K R0.F.FA R0.CA R0.cls S' H' x c dd → R0.W c dd σ' H'
def kFl (R0 : Rd0) (fr : Bool) (tk : List Nat) (D : Ends) (S : Sh) (H : Hp) (σ : St) : Fl → EV.Env → Prop
  | .nx, ρ' => ∀ σ' S' H', NxS R0.F S H σ tk S' H' σ' ρ' → D.nx σ' H'
  | .bk, ρ' => ∀ σ' S' H', NxS R0.F S H σ tk S' H' σ' ρ' → D.bk σ' H'
  | .ct, ρ' => ∀ σ' S' H', NxS R0.F S H σ tk S' H' σ' ρ' → D.ct σ' H'
  | .ret d, ρ' => ∀ v S' H', RetOk R0.F fr S' H' v d ρ' → D.rt v H'
def tSat (R0 : Rd0) (fr : Bool) (tk : List Nat) (f : EV.Env → R Fl) (D : Ends) (σ : St) (H : Hp) (S : Sh) (ρ : EV.Env) : Prop :=
  EnvOk R0.F S H σ ρ ∧ KR (f ρ) (kFl R0 fr tk D S H σ) (R0.exS tk S H σ)
def tSt (R0 : Rd0) (fr : Bool) (tk : List Nat) (f : EV.Env → R Fl) : TS := fun D σ H => ∃ S ρ, tSat R0 fr tk f D σ H S ρ

section
variable {R0 : Rd0} {fr : Bool} {tk tk' ms : List Nat} {Ed : Ends} {S S1 S2 : Sh} {H H1 H2 : Hp} {σ σ1 σ2 : St} {ρ ρ1 ρ2 : EV.Env} {f : EV.Env → R Fl}
theorem exS_back (N : NxS R0.F S H σ tk S1 H1 σ1 ρ1) {x : Exc} {ρ' : EV.Env} (h : R0.exS tk S H σ x ρ') : R0.exS tk S1 H1 σ1 x ρ' := fun c dd σ' S' H' N' => h c dd σ' S' H' (N.trans N')
theorem exS_ex (E : EnvOk R0.F S H σ ρ) (ho : ∀ j ∈ ms, j ∈ R0.F.own) (hm : ∀ j ∈ ms, j ∈ tk) {x : Exc} {ρ' : EV.Env} (h : R0.exS tk S H σ x ρ') : R0.ex ms S H σ ρ x ρ' := fun c dd S' H' N' => h c dd σ S' H' (N'.nxs E ho hm)
theorem exS_less (hm : ∀ j ∈ tk', j ∈ tk) {x : Exc} {ρ' : EV.Env} (h : R0.exS tk S H σ x ρ') : R0.exS tk' S H σ x ρ' := fun c dd σ' S' H' N' => h c dd σ' S' H' (N'.mono hm)
theorem kFl_back (N : NxS R0.F S H σ tk S1 H1 σ1 ρ1) : ∀ {fl : Fl} {ρ' : EV.Env}, kFl R0 fr tk Ed S H σ fl ρ' → kFl R0 fr tk Ed S1 H1 σ1 fl ρ'
  | .nx, _, h => fun σ' S' H' N' => h σ' S' H' (N.trans N')
  | .bk, _, h => fun σ' S' H' N' => h σ' S' H' (N.trans N')
  | .ct, _, h => fun σ' S' H' N' => h σ' S' H' (N.trans N')
  | .ret _, _, h => h
theorem kFl_less (hm : ∀ j ∈ tk', j ∈ tk) : ∀ {fl : Fl} {ρ' : EV.Env}, kFl R0 fr tk Ed S H σ fl ρ' → kFl R0 fr tk' Ed S H σ fl ρ'
  | .nx, _, h => fun σ' S' H' N' => h σ' S' H' (N'.mono hm)
  | .bk, _, h => fun σ' S' H' N' => h σ' S' H' (N'.mono hm)
  | .ct, _, h => fun σ' S' H' N' => h σ' S' H' (N'.mono hm)
  | .ret _, _, h => h
theorem tSat.tSt (h : tSat R0 fr tk f Ed σ H S ρ) : tSt R0 fr tk f Ed σ H := ⟨S, ρ, h⟩
theorem tSat.mono (hm : ∀ j ∈ tk', j ∈ tk) (h : tSat R0 fr tk f Ed σ H S ρ) : tSat R0 fr tk' f Ed σ H S ρ := ⟨h.1, h.2.imp (fun _ _ h => kFl_less hm h) fun _ _ h => exS_less hm h⟩
theorem tSat.next (h : tSat R0 fr tk (fun ρ => .ok .nx ρ) Ed σ H S ρ) : Ed.nx σ H := by
  obtain ⟨E, h⟩ := h
  have h' : ∀ σ' S' H', NxS R0.F S H σ tk S' H' σ' ρ → Ed.nx σ' H' := h
  exact h' σ S H (NxS.refl E)
/-- an expression ahead -/
theorem tSat.step {got : Hp → Sh → Hp → St → V → D → Prop} {P : VK} {f : EV.Env → R D} {g : D → EV.Env → R Fl} (ho : ∀ j ∈ ms, j ∈ R0.F.own) (hm : ∀ j ∈ ms, j ∈ tk) (h : tSat R0 fr tk (fun ρ => (f ρ).bind g) Ed σ H S ρ)
    (k : ∀ d ρ1 v S1 H1, Nxt R0.F S H ms σ ρ S1 H1 ρ1 → got H S1 H1 σ v d → tSat R0 fr tk (g d) Ed σ H1 S1 ρ1 → P v H1) : tGat R0 ms f got σ H P S ρ := by
  obtain ⟨E, h⟩ := h
  refine ⟨E, h.bind.imp (fun d ρ1 h v S1 H1 N q => k d ρ1 v S1 H1 N q ⟨N.ok, ?_⟩) fun x ρ1 h => exS_ex E ho hm h⟩
  have N' := N.nxs (tk := tk) E ho hm
  exact h.imp (fun fl ρ2 h => kFl_back N' h) fun x ρ2 h => exS_back N' h
theorem tSat.stepC {P : Bool → Hp → Prop} {f : EV.Env → R Bool} {g : Bool → EV.Env → R Fl} (ho : ∀ j ∈ ms, j ∈ R0.F.own) (hm : ∀ j ∈ ms, j ∈ tk) (h : tSat R0 fr tk (fun ρ => (f ρ).bind g) Ed σ H S ρ)
    (k : ∀ b ρ1 S1 H1, Nxt R0.F S H ms σ ρ S1 H1 ρ1 → tSat R0 fr tk (g b) Ed σ H1 S1 ρ1 → P b H1) : tCv R0 ms f σ H P := by
  obtain ⟨E, h⟩ := h
  refine ⟨S, ρ, E, h.bind.imp (fun d ρ1 h S1 H1 N => k d ρ1 S1 H1 N ⟨N.ok, ?_⟩) fun x ρ1 h => exS_ex E ho hm h⟩
  have N' := N.nxs (tk := tk) E ho hm
  exact h.imp (fun fl ρ2 h => kFl_back N' h) fun x ρ2 h => exS_back N' h
end

section
variable {F : Fr0} {S S' S1 : Sh} {H H' H1 : Hp} {σ σ1 : St} {ρ ρ1 : EV.Env} {i : Nat} {a : Addr} {d d' : D} {v : V}
/-- a slot gets a list of its own -/
theorem EnvOk.setO (E : EnvOk F S H σ ρ) (hi : i ∈ F.own) (hl : i < ρ.length) (hio : F.io = none ∨ i ≠ 0) (ow : Own F.K F.FA S H (.ref a) d) (new : ∀ j ∈ F.own, σ[j]? ≠ some (some (.ref a))) (h0 : F.H0 a = none) : EnvOk F S H (σ.set i (some (.ref a))) (ρ.set i (some d)) where
  len := by rw [List.length_set, List.length_set]; exact E.len
  sh := fun j e hj h => by
    have hij : i ≠ j := fun z => hj (z ▸ hi)
    rw [List.getElem?_set_ne hij] at h ⊢
    exact E.sh j e hj h
  ow := fun j e hj h => by
    by_cases hij : i = j
    · subst hij
      rw [List.getElem?_set_self hl] at h
      cases h
      exact ⟨_, List.getElem?_set_self (by rw [E.len]; exact hl), ow⟩
    · rw [List.getElem?_set_ne hij] at h ⊢
      exact E.ow j e hj h
  apart := fun j j' b d1 d2 hj hj' h1 h2 h3 h4 => by
    by_cases hij : i = j
    · by_cases hij' : i = j'
      · exact hij.symm.trans hij'
      · subst hij
        rw [List.getElem?_set_self (by rw [E.len]; exact hl)] at h3
        cases h3
        rw [List.getElem?_set_ne hij'] at h4
        exact absurd h4 (new j' hj')
    · by_cases hij' : i = j'
      · subst hij'
        rw [List.getElem?_set_self (by rw [E.len]; exact hl)] at h4
        cases h4
        rw [List.getElem?_set_ne hij] at h3
        exact absurd h3 (new j hj)
      · rw [List.getElem?_set_ne hij] at h1 h3
        rw [List.getElem?_set_ne hij'] at h2 h4
        exact E.apart j j' b d1 d2 hj hj' h1 h2 h3 h4
  frame := E.frame
  live := E.live
  mine := fun j b e hj h1 h2 => by
    by_cases hij : i = j
    · subst hij
      rw [List.getElem?_set_self (by rw [E.len]; exact hl)] at h2
      cases h2
      exact .inl h0
    · rw [List.getElem?_set_ne hij] at h1 h2
      exact E.mine j b e hj h1 h2
  inout := fun b h => by
    obtain ⟨h1, h2, h3⟩ := E.inout b h
    have hij : i ≠ 0 := hio.resolve_left fun z => by rw [h] at z; cases z
    rw [List.getElem?_set_ne hij, List.getElem?_set_ne hij]
    exact ⟨h1, h2, h3⟩
  un := fun j hj h => by
    by_cases hij : i = j
    · subst hij
      rw [List.getElem?_set_self hl] at h
      cases h
    · rw [List.getElem?_set_ne hij] at h ⊢
      exact E.un j hj h
  entry := E.entry
theorem new_slot (E : EnvOk F S H σ ρ) {a : Addr} (h : H a = none) : ∀ j ∈ F.own, σ[j]? ≠ some (some (.ref a)) := fun j hj e => by
  obtain ⟨d, q⟩ := E.slot hj e
  obtain ⟨a', _, _, h1, _, h3, _⟩ := E.addr hj q
  rw [e] at h1
  cases h1
  rw [h] at h3; cases h3
theorem new_h0 (E : EnvOk F S H σ ρ) {a : Addr} (h : H a = none) : F.H0 a = none := by
  cases q : F.H0 a with
  | none => rfl
  | some o =>
    have hn : F.io ≠ some a := fun z => new_slot E h 0 (E.inout a z).1 (E.inout a z).2.1
    have := E.frame a o q hn
    rw [h] at this; cases this
end

/-! ### the context of a statement -/
/-- what an exception's own __init__ does: it keeps its argument as the field -/
def initSp (C : Addr) (f : Str) : Sp := fun vs H Q _ => ∃ a y, vs = [.ref a, y] ∧ H a = some (exo a C none) ∧ ∀ dx, H dx = none → dx ≠ a → Q .non (upd (upd H dx (exd dx [(f, y)])) a (exo a C (some dx)))
structure XS (P : Pg) (R0 : Rd0) (k : Nat) (X : Cx) : Prop extends XOk P R0 k X where
  hp : PassesOwn (model X.prog X.w) X.A X.env X.xe
  hst : X.stack = X.env :: X.outer
  hfr : X.env.frame = some X.env.locals
  fn : ∀ x, X.fn x = true
  kind : X.env.scope.kind = .function
  raises : ∀ c nm f, P.cls[c]? = some (nm, some f) → ∃ C fI fd ps j, R0.CA c = some C ∧ j + 1 ≤ k ∧ OexC X.K C ∧ PySem.W.findIn X.K (.ref C) "__init__" = some (some (.ref fI)) ∧ PySem.W.typeIn X.K (.ref fI) = some (.type "function") ∧
    FnOk X.prog X.w X.K X.mg X.base (L2.CX X.prog X.w) j fI fd ps (initSp C f) ∧ Binds X.K fd ps [] ∧ X.mg nm = some (.ref C) ∧ XfC X.K C ∧ PySem.W.findIn X.K (.ref C) f = some none
  exm : ∀ c c' C C', R0.CA c = some C → R0.CA c' = some C' → PySem.W.exmOne X.K (.ref C) (.ref C') = some (decide (c = c'))
theorem XS.sx {P : Pg} {R0 : Rd0} {k : Nat} {X : Cx} (h : XS P R0 k X) : SX X.env.scope X := SX.refl fun x _ => h.fn x
def Rd0.wish (R0 : Rd0) (W : WX) : Rd0 := { R0 with W := W }
theorem XS.tr {P : Pg} {R0 : Rd0} {k : Nat} {X : Cx} (h : XS P R0 k X) {W : WX} {pn : List (Addr × Obj)} {xe : Value → Shared → Prop} (t : Takes (X.tr pn xe) W) (hp : PassesOwn (model X.prog X.w) X.A X.env xe) : XS P (R0.wish W) k (X.tr pn xe) where
  calm := h.calm
  room := h.room
  nd := h.nd
  hK := h.hK
  takes := t
  nms := h.nms
  cls := h.cls
  defs := h.defs
  fns := h.fns
  lens := h.lens
  consts := h.consts
  hp := hp
  hst := h.hst
  hfr := h.hfr
  fn := h.fn
  kind := h.kind
  raises := h.raises
  exm := h.exm

/-! ### which text is which statement -/
def noComp : Expr → Bool
  | .ListComp .. => false
  | .SetComp .. => false
  | .DictComp .. => false
  | _ => true
def folded2 : List Expr → Bool
  | [a, b] => foldedForSure 8 a && foldedForSure 8 b
  | _ => false
/-- a tuple is stored item by item, as it stands -/
def plainStore : Expr → Bool
  | .Tuple vs _ _ => !(vs.length == 2 || vs.length == 3) || folded2 vs
  | _ => true
def lineOf : Expr → Nat := fun e => e.pos.line
/-- a, b = x, y: stored from the right -/
def swap2 (sc : Scope) (x y : Str) (px py : Pos) (a b : Expr) : Bool :=
  decide (sc.names.lookup x = some .local) && decide (sc.names.lookup y = some .local) && (py.line == px.line) && !(x == y) && plainA a && plainA b && !(foldedForSure 8 a && foldedForSure 8 b) && !(constantsAlone 8 a && constantsAlone 8 b)
def compIn (sc : Scope) (x : Str) (px : Pos) : Expr → Bool
  | .ListComp _ _ scope pos => decide (sc.names.lookup x = some .local) && (px.line == pos.line) && !(scope.names.any fun (n, k) => n == x && (k == .local || k == .cell))
  | _ => false
def E.isComp : E → Bool
  | .comp _ _ _ _ => true
  | .compIf _ _ _ _ _ => true
  | _ => false
def okV (own : List Nat) (o : Bool) (e : E) : Bool := e.st own && (!o || e.fresh)
mutual
def S.tch : S → List Nat
  | .asg _ e => e.muts
  | .asgO i e => i :: e.muts
  | .asg2 _ _ i j a b => i :: j :: (a.muts ++ b.muts)
  | .aug _ e => e.muts
  | .store i ix e => i :: (ix.muts ++ e.muts)
  | .app i e => i :: e.muts
  | .expr e => e.muts
  | .ret e => e.muts
  | .retN => []
  | .if_ c a b => c.muts ++ (a.tch ++ b.tch)
  | .for_ _ it b => it.muts ++ b.tch
  | .while_ c b => c.muts ++ b.tch
  | .never => []
  | .raise1 _ e => e.muts
  | .try_ b _ _ _ => b.tch
def Ss.tch : Ss → List Nat
  | .nil => []
  | .cons s ss => s.tch ++ ss.tch
end
section
variable (P : Pg) (own : List Nat) (N : List Str) (io fr : Bool)
def mok (ms : List Nat) : Bool := ms.all fun i => own.contains i
def retOk (e : E) : Bool := if fr then (e.fresh && e.st own) || (e.isVar && !e.st own && (!io || !(e.flags own).contains 0)) else !io || !(e.flags own).contains 0
mutual
def chkS : S → Scope → Stmt → Bool
  | .asg (.nm i) e, sc, .Assign [.Name x px] v _ => decide (N[i]? = some x) && locB sc x && !own.contains i && chkE P own N e sc v && e.st own && mok own e.muts && (noComp v || (e.isComp && compIn sc x px v))
  | .asg (.tp ts) e, sc, .Assign [t] v _ => chkT N sc (.tp ts) t && (ts.slots.all fun i => !own.contains i) && chkE P own N e sc v && e.st own && mok own e.muts && noComp v && plainStore v
  | .asgO i e, sc, .Assign [.Name x px] v _ => decide (N[i]? = some x) && locB sc x && own.contains i && (!io || decide (i ≠ 0)) && chkE P own N e sc v && e.fresh && e.st own && mok own e.muts && (noComp v || (e.isComp && compIn sc x px v))
  | .asg2 oi oj i j a b, sc, .Assign [.Tuple [.Name x px, .Name y py] _ _] (.Tuple [u, v] _ _) _ => decide (N[i]? = some x) && decide (N[j]? = some y) && swap2 sc x y px py u v && chkE P own N a sc u && chkE P own N b sc v && okV own oi a && okV own oj b && (oi == own.contains i) && (oj == own.contains j) && (!io || (decide (i ≠ 0) && decide (j ≠ 0))) && mok own a.muts && mok own b.muts && decide (i ≠ j)
  | .aug i e, sc, .AugAssign (.Name x _) .Add v _ => decide (N[i]? = some x) && locB sc x && !own.contains i && chkE P own N e sc v && e.st own && mok own e.muts
  | .store i ix e, sc, .Assign [.Subscript (.Name x _) y _] v _ => decide (N[i]? = some x) && visB sc x && own.contains i && noSlice y && chkE P own N ix sc y && ix.st own && mok own ix.muts && chkE P own N e sc v && e.st own && mok own e.muts && noComp v
  | .app i e, sc, .Expr (.Call (.Attribute (.Name x _) n ap) [v] [] cp) _ => n == ("append" : Str) && (ap.endLine == cp.line) && plainA v && decide (N[i]? = some x) && visB sc x && own.contains i && chkE P own N e sc v && e.st own && mok own e.muts
  | .expr e, sc, .Expr v _ => chkE P own N e sc v && mok own e.muts && noComp v
  | .ret e, sc, .Return (some v) _ => chkE P own N e sc v && mok own e.muts && retOk own io fr e
  | .retN, _, .Return none _ => true
  | .if_ c a b, sc, .If x p q _ => chkE P own N c sc x && c.w own && mok own c.muts && chkSs a sc p && chkSs b sc q
  | .for_ t it b, sc, .For tg iter p [] _ => chkT N sc t tg && (t.slots.all fun i => !own.contains i) && chkI P own N it sc iter tg && mok own it.muts && ((it.flags own).all fun i => !b.tch.contains i) && chkSs b sc p
  | .while_ c b, sc, .While x p [] _ => chkE P own N c sc x && c.w own && mok own c.muts && chkSs b sc p
  | .never, _, _ => true
  | .raise1 c e, sc, .Raise (some (.Call (.Name x _) [v] [] _)) none _ => plainA v && glB sc x && chkE P own N e sc v && e.st own && mok own e.muts && (match P.cls[c]? with | some (nm, some _) => nm == x | _ => false)
  | .try_ b c (some i) (.setP j s), sc, .Try p [.ExceptHandler (some (.Name x _)) (some n) [.Assign [.Name y _] (.Tuple [.Constant (.str z) _ _, .Attribute (.Name n' _) f _] _ _) _] _] [] [] _ =>
      chkSs b sc p && glB sc x && decide (N[i]? = some n) && decide (sc.names.lookup n = some .local) && decide (N[j]? = some y) && locB sc y && (s == z.cps.toList) && (n == n') && visB sc n && !own.contains i && !own.contains j && (match P.cls[c]? with | some (nm, some f') => nm == x && f' == f | _ => false)
  | _, _, _ => false
def chkSs : Ss → Scope → List Stmt → Bool
  | .nil, _, [] => true
  | .cons s ss, sc, .Expr (.Constant (.str _) _ _) _ :: st :: r => chkS s sc st && chkSs ss sc r
  | .cons s ss, sc, st :: r => chkS s sc st && chkSs ss sc r
  | _, _, _ => false
end
end
end EV
end
section
set_option autoImplicit false
/-! Ev15: statements, node by node. -/
namespace EV
open PySem PySem.Spec PyProof.Rows L2

theorem mok_mem {own ms : List Nat} (h : mok own ms = true) : ∀ j ∈ ms, j ∈ own := fun j hj => cont_mem (all_mem h hj)

section
variable {P : Pg} {R0 : Rd0} {k : Nat} {X : Cx} {fr : Bool} {e a b c ix : E} {v x y u : Expr} {i j : Nat} {pos p1 p2 px py pt : Pos} {z : Str} {wf : Nat}

theorem swF {e : Expr} (h : noComp e = true) (t : Option Expr) (n : Nat) (env : PySem.Env) : swapsWith e t n env = pure false := by
  cases e <;> first | rfl | cases h
theorem swSoleF {e t : Expr} (h : noComp e = true) (n : Nat) (env : PySem.Env) : swapsWithSole [t] e n env = pure false := swF h (some t) n env
theorem swap_none {e t : Expr} (h : plainStore e = true) (env : PySem.Env) : swappedStores [t] e env = pure none := by
  cases e <;> first | (cases t <;> rfl) | skip
  rename_i vs kk pos
  have h' : (!(vs.length == 2 || vs.length == 3) || folded2 vs) = true := h
  have ff : ∀ ts : List Expr, ¬ ((!(ts.length == 2 || ts.length == 3) || vs.length != ts.length || env.blockKind != .function) = true) → vs.all (foldedForSure 8) = true := by
    intro ts hn
    have hlen : vs.length = ts.length ∧ (ts.length = 2 ∨ ts.length = 3) := by
      simp only [Bool.or_eq_true, Bool.not_eq_true', bne_iff_ne, ne_eq] at hn
      have h1 : ¬ (vs.length ≠ ts.length) := fun z => hn (.inl (.inr z))
      have h2 : (ts.length == 2 || ts.length == 3) = true := by
        cases q : (ts.length == 2 || ts.length == 3) with
        | true => rfl
        | false => exact absurd (.inl (.inl q)) hn
      refine ⟨Decidable.not_not.mp h1, ?_⟩
      simpa using h2
    have hf : folded2 vs = true := by
      rw [Bool.or_eq_true] at h'
      rcases h' with h' | h'
      · rw [hlen.1] at h'
        rcases hlen.2 with q | q <;> (rw [q] at h'; cases h')
      · exact h'
    unfold folded2 at hf
    split at hf
    · rw [Bool.and_eq_true] at hf
      simp [hf.1, hf.2]
    · cases hf
  cases t <;> first
    | rfl
    | (unfold swappedStores
       dsimp only
       split
       · rfl
       · rename_i hn
         have hall := ff _ hn
         split
         · rfl
         · split <;> rfl)

/-! ### nodes -/
theorem len_of {ρ : EV.Env} {i : Nat} {d : D} (h : ρ[i]? = some (some d)) : i < ρ.length := (List.getElem?_eq_some_iff.mp h).1
/-- name = e, no list of its own -/
theorem asg_red {e : E} {D' : Ends} {σ : St} {H : Hp} {t : Tg} {tk : List Nat} (ho : ∀ i ∈ t.slots, i ∉ R0.F.own) (hm : ∀ j ∈ e.muts, j ∈ R0.F.own) (hk : ∀ j ∈ e.muts, j ∈ tk)
    (h : tSt R0 fr tk (evS R0.call wf (.asg t e)) D' σ H) : tAsg (tG R0 e.muts (evE R0.call e) (gSt R0.F)) (gTg R0.F t.slots t.bind) D' σ H := by
  obtain ⟨S, ρ, h⟩ := h
  refine tGat.tG (S := S) (ρ := ρ) (tSat.step hm hk h fun d ρ1 v S1 H1 N g h1 => ?_)
  obtain ⟨E1, h1⟩ := h1
  obtain ⟨ρ2, hb, h1⟩ := KR.opt h1.bind
  have h1 : ∀ σ' S' H', NxS R0.F S1 H1 σ tk S' H' σ' ρ2 → D'.nx σ' H' := h1
  exact ⟨S1, ρ1, d, ρ2, E1, g, hb, fun σ' E2 c1 c2 c3 => h1 σ' S1 H1 (NxS.same E2 (Ext.refl _ _) (fun j hj _ => c1 j fun z => ho j z hj) (Same.refl _))⟩
theorem s_asg (hX : XS P R0 k X) {t : Tg} {tg : Expr} (hp : noComp v = true) (hsw : plainStore v = true) (ht : chkT X.N X.env.scope t tg = true) (hpl : plainA tg = true) (ho : ∀ i ∈ t.slots, i ∉ R0.F.own) (he : SE R0 X e v) (se : e.st R0.F.own = true) (hm : ∀ j ∈ e.muts, j ∈ R0.F.own) :
    PS X (.Assign [tg] v pos) (tSt R0 fr (S.asg t e).tch (evS R0.call wf (.asg t e))) :=
  (ps_asg (he.peSt se) (soundT hX.toXOk hX.sx t ht ho) (swSoleF hp _ _) (swap_none hsw _) (by rw [assignEach_cons hpl]; rfl)).evImp fun D' σ H h => asg_red ho hm (fun j h => h) h
theorem name_red {e : E} {D' : Ends} {σ : St} {H : Hp} {tk : List Nat} (hi : i ∉ R0.F.own) (hm : ∀ j ∈ e.muts, j ∈ R0.F.own) (hk : ∀ j ∈ e.muts, j ∈ tk)
    (h : tSt R0 fr tk (evS R0.call wf (.asg (.nm i) e)) D' σ H) : tAsg (tG R0 e.muts (evE R0.call e) (gSt R0.F)) (gName i) D' σ H := by
  obtain ⟨S, ρ, h⟩ := h
  refine tGat.tG (S := S) (ρ := ρ) (tSat.step hm hk h fun d ρ1 v S1 H1 N g h1 => ?_)
  obtain ⟨E1, h1⟩ := h1
  obtain ⟨ρ2, hb, h1⟩ := KR.opt h1.bind
  have h1 : ∀ σ' S' H', NxS R0.F S1 H1 σ tk S' H' σ' ρ2 → D'.nx σ' H' := h1
  have hb : (if i < ρ1.length then some (ρ1.set i (some d)) else none) = some ρ2 := hb
  split at hb
  · rename_i hl
    cases hb
    exact h1 _ S1 H1 (NxS.same (E1.setS hi hl g) (Ext.refl _ _) (fun j hj _ => List.getElem?_set_ne (by intro z; subst z; exact hi hj)) (Same.refl _))
  · cases hb
theorem s_name (hX : XS P R0 k X) (hp : noComp v = true) (h1 : X.N[i]? = some z) (hl : locB X.env.scope z = true) (hi : i ∉ R0.F.own) (he : SE R0 X e v) (se : e.st R0.F.own = true) (hm : ∀ j ∈ e.muts, j ∈ R0.F.own) :
    PS X (.Assign [.Name z px] v pos) (tSt R0 fr (S.asg (.nm i) e).tch (evS R0.call wf (.asg (.nm i) e))) := by
  obtain ⟨l1, l2⟩ := locB_of hX.sx hl
  exact (ps_set hX.nd h1 l1 (he.peSt se) (swF hp _ _ _) l2).evImp fun D' σ H h => name_red hi hm (fun j h => h) h
/-- name = e, a list of its own -/
theorem own_red {e : E} {D' : Ends} {σ : St} {H : Hp} {tk : List Nat} (hi : i ∈ R0.F.own) (hio : R0.F.io = none ∨ i ≠ 0) (hm : ∀ j ∈ e.muts, j ∈ R0.F.own) (hk : ∀ j ∈ e.muts, j ∈ tk) (hik : i ∈ tk)
    (h : tSt R0 fr tk (evS R0.call wf (.asgO i e)) D' σ H) : tAsg (tG R0 e.muts (evE R0.call e) (gNew R0.F)) (gName i) D' σ H := by
  obtain ⟨S, ρ, h⟩ := h
  have E0 := h.1
  refine tGat.tG (S := S) (ρ := ρ) (tSat.step hm hk h fun d ρ1 v S1 H1 N g h1 => ?_)
  obtain ⟨E1, h1⟩ := h1
  have h1 : KR (if okO true d && decide (i < ρ1.length) then .ok Fl.nx (ρ1.set i (some d)) else .bad) _ _ := h1
  split at h1
  · rename_i hc
    simp only [Bool.and_eq_true, decide_eq_true_eq] at hc
    have h1 : ∀ σ' S' H', NxS R0.F S1 H1 σ tk S' H' σ' (ρ1.set i (some d)) → D'.nx σ' H' := h1
    rcases g with ⟨ow, nw⟩ | ⟨nl, _⟩
    · obtain ⟨a, xs, ds, rfl, ns, ha, rfl, hd⟩ := ow
      have hn := nw a rfl
      refine h1 _ S1 H1 (NxS.same (E1.setO hi hc.2 hio ⟨a, xs, ds, rfl, ns, ha, rfl, hd⟩ (new_slot E0 hn) (new_h0 E0 hn)) (Ext.refl _ _) (fun j hj hn => List.getElem?_set_ne (by intro z; subst z; exact hn hik)) (Same.refl _))
    · cases d <;> first | exact absurd rfl (nl _) | cases hc.1
  · exact h1.elim
theorem s_own (hX : XS P R0 k X) (hp : noComp v = true) (h1 : X.N[i]? = some z) (hl : locB X.env.scope z = true) (hi : i ∈ R0.F.own) (hio : R0.F.io = none ∨ i ≠ 0) (he : SE R0 X e v) (hf : e.fresh = true) (hm : ∀ j ∈ e.muts, j ∈ R0.F.own) :
    PS X (.Assign [.Name z px] v pos) (tSt R0 fr (S.asgO i e).tch (evS R0.call wf (.asgO i e))) := by
  obtain ⟨l1, l2⟩ := locB_of hX.sx hl
  have pe := he.pe
  rw [ge_new hf] at pe
  exact (ps_set hX.nd h1 l1 pe (swF hp _ _ _) l2).evImp fun D' σ H h => own_red hi hio hm (fun j h => List.mem_cons_of_mem _ h) List.mem_cons_self h

/-! ### name = [..] -/
section
variable {sc scope : Scope} {vs : List (Str × Nat)} {it : EV.It} {tg : Tg} {elt : E} {ast t iter : Expr} {spos : Pos}
theorem compIn_of {gs : List Comprehension} (h : compIn X.env.scope z px (.ListComp ast gs scope pos) = true) : X.env.scope.names.lookup z = some .local ∧ (px.line == pos.line) = true ∧ (scope.names.any fun (n, k) => n == z && (k == .local || k == .cell)) = false := by
  unfold compIn at h
  simp only [Bool.and_eq_true, decide_eq_true_eq, Bool.not_eq_true'] at h
  exact ⟨h.1.1, h.1.2, h.2⟩
theorem comp_ps (hX : XS P R0 k X) (hy : X.N[i]? = some z) (hin : compIn X.env.scope z px (.ListComp ast [⟨t, iter, [], 0⟩] scope pos) = true) (hb : blkC X.N X.env.scope scope vs = true) (hi : SI R0 X it t iter) (ht : chkT X.N scope tg t = true)
    (he : ∀ (s : Shared) (H : Hp) (C : Addr) (cl : List (Str × Addr)) (fp : List Addr), SE R0.calm (X.blk s H scope (compEnvC scope cl C X.env) fp) elt ast) (se : elt.st R0.F.own = true) (hvo : ∀ i ∈ vs.map (·.2), i ∉ R0.F.own) (hts : ∀ i ∈ tg.slots, i ∈ vs.map (·.2)) (hfl : ∀ j ∈ it.flags R0.F.own, j ∉ elt.muts) (hmo : ∀ j ∈ elt.muts, j ∈ R0.F.own) :
    PS X (.Assign [.Name z px] (.ListComp ast [⟨t, iter, [], 0⟩] scope pos) spos) (tAsg (tG R0 (E.comp vs tg it elt).muts (evE R0.call (.comp vs tg it elt)) (gNew R0.F)) (gName i)) := by
  obtain ⟨c1, c2, c3⟩ := compIn_of hin
  refine (ps_setLc hX.calm hX.nd hy c1 (sw_true hX.kind c1 c2 c3) hi.pi (blkOk_sx hX.sx hb) (fun s H C cl fp => soundT (hX.toXOk.blk (s := s) (H := H) (cl := cl) (C := C) (fp := fp)) SX.blk tg ht fun i hi => hvo i (hts i hi)) (fun s H C cl fp => pts_nil) (fun s H C cl fp => (he s H C cl fp).peSt se) hi.fold).evImp fun D' σ H h => ?_
  exact comp_red (mc := []) hvo hts (fun j => It.flags_own) hfl hmo (fun σ H Q h => tCv.ok (b := true) h) h
theorem comp_psIf (hX : XS P R0 k X) (hy : X.N[i]? = some z) (hin : compIn X.env.scope z px (.ListComp ast [⟨t, iter, [x], 0⟩] scope pos) = true) (hb : blkC X.N X.env.scope scope vs = true) (hi : SI R0 X it t iter) (ht : chkT X.N scope tg t = true)
    (hc : ∀ (s : Shared) (H : Hp) (C : Addr) (cl : List (Str × Addr)) (fp : List Addr), SE R0.calm (X.blk s H scope (compEnvC scope cl C X.env) fp) c x) (wc : c.w R0.F.own = true)
    (he : ∀ (s : Shared) (H : Hp) (C : Addr) (cl : List (Str × Addr)) (fp : List Addr), SE R0.calm (X.blk s H scope (compEnvC scope cl C X.env) fp) elt ast) (se : elt.st R0.F.own = true) (hvo : ∀ i ∈ vs.map (·.2), i ∉ R0.F.own) (hts : ∀ i ∈ tg.slots, i ∈ vs.map (·.2)) (hfl : ∀ j ∈ it.flags R0.F.own, j ∉ c.muts ++ elt.muts) (hmo : ∀ j ∈ c.muts ++ elt.muts, j ∈ R0.F.own) :
    PS X (.Assign [.Name z px] (.ListComp ast [⟨t, iter, [x], 0⟩] scope pos) spos) (tAsg (tG R0 (E.compIf vs tg it c elt).muts (evE R0.call (.compIf vs tg it c elt)) (gNew R0.F)) (gName i)) := by
  obtain ⟨c1, c2, c3⟩ := compIn_of hin
  refine (ps_setLc hX.calm hX.nd hy c1 (sw_true hX.kind c1 c2 c3) hi.pi (blkOk_sx hX.sx hb) (fun s H C cl fp => soundT (hX.toXOk.blk (s := s) (H := H) (cl := cl) (C := C) (fp := fp)) SX.blk tg ht fun i hi => hvo i (hts i hi)) (fun s H C cl fp => pts_one ((hc s H C cl fp).pt wc)) (fun s H C cl fp => (he s H C cl fp).peSt se) hi.fold).evImp fun D' σ H h => ?_
  exact comp_red hvo hts (fun j => It.flags_own) hfl hmo (fun σ H Q h => h) h
/-- a comprehension put into a name -/
theorem comp_set (hX : XS P R0 k X) (hy : X.N[i]? = some z) (hc : e.isComp = true) (hin : compIn X.env.scope z px v = true) (h : chkE P R0.F.own X.N e X.env.scope v = true) :
    PS X (.Assign [.Name z px] v spos) (tAsg (tG R0 e.muts (evE R0.call e) (gNew R0.F)) (gName i)) := by
  have hX' := hX.toXOk
  unfold chkE at h
  split at h
  all_goals first | (cases hc; done) | skip
  · rename_i vs tg it e elt t iter scope _
    simp only [Bool.and_eq_true] at h
    obtain ⟨⟨⟨⟨⟨⟨⟨⟨h1, h2⟩, h3⟩, h4⟩, h5⟩, h6⟩, h7⟩, h8⟩, h9⟩ := h
    exact comp_ps hX hy hin h1 (soundI it hX' hX.sx h3) h2 (fun s H C cl fp => soundE e (hX'.blk (s := s) (H := H) (cl := cl) (C := C) (fp := fp)) SX.blk h4) h5 (fun i hi => ncont_mem (all_mem h9 hi)) (fun i hi => cont_mem (all_mem h8 hi)) (fun j hj => ncont_mem (all_mem h6 hj)) fun j hj => cont_mem (all_mem h7 hj)
  · rename_i vs tg it c e elt t iter x scope _
    simp only [Bool.and_eq_true] at h
    obtain ⟨⟨⟨⟨⟨⟨⟨⟨⟨⟨h1, h2⟩, h3⟩, h4⟩, h5⟩, h6⟩, h7⟩, h8⟩, h9⟩, h10⟩, h11⟩ := h
    exact comp_psIf hX hy hin h1 (soundI it hX' hX.sx h3) h2 (fun s H C cl fp => soundE c (hX'.blk (s := s) (H := H) (cl := cl) (C := C) (fp := fp)) SX.blk h4) h6 (fun s H C cl fp => soundE e (hX'.blk (s := s) (H := H) (cl := cl) (C := C) (fp := fp)) SX.blk h5) h7 (fun i hi => ncont_mem (all_mem h11 hi)) (fun i hi => cont_mem (all_mem h10 hi)) (fun j hj => ncont_mem (all_mem h8 hj)) fun j hj => cont_mem (all_mem h9 hj)
  · cases h
end
end
end EV
end
section
set_option autoImplicit false
/-! Ev16: further statements. -/
namespace EV
open PySem PySem.Spec PyProof.Rows L2

section
variable {P : Pg} {R0 : Rd0} {k : Nat} {X : Cx} {fr : Bool} {e a b c ix : E} {v x y u : Expr} {i j : Nat} {pos p1 p2 px py pt : Pos} {z : Str} {wf : Nat} {tk : List Nat}

/-- name = a comprehension -/
theorem s_nameC (hX : XS P R0 k X) (h1 : X.N[i]? = some z) (hi : i ∉ R0.F.own) (hc : e.isComp = true) (hin : compIn X.env.scope z px v = true) (h : chkE P R0.F.own X.N e X.env.scope v = true) (hm : ∀ j ∈ e.muts, j ∈ R0.F.own) :
    PS X (.Assign [.Name z px] v pos) (tSt R0 fr (S.asg (.nm i) e).tch (evS R0.call wf (.asg (.nm i) e))) :=
  (comp_set hX h1 hc hin h).evImp fun D' σ H h => gNew_st (name_red hi hm (fun j h => h) h)
theorem s_ownC (hX : XS P R0 k X) (h1 : X.N[i]? = some z) (hi : i ∈ R0.F.own) (hio : R0.F.io = none ∨ i ≠ 0) (hc : e.isComp = true) (hin : compIn X.env.scope z px v = true) (h : chkE P R0.F.own X.N e X.env.scope v = true) (hm : ∀ j ∈ e.muts, j ∈ R0.F.own) :
    PS X (.Assign [.Name z px] v pos) (tSt R0 fr (S.asgO i e).tch (evS R0.call wf (.asgO i e))) :=
  (comp_set hX h1 hc hin h).evImp fun D' σ H h => own_red hi hio hm (fun j h => List.mem_cons_of_mem _ h) List.mem_cons_self h

/-! ### a, b = x, y -/
theorem swap2_of {kk k2 : Nat} {pt2 : Pos} (hk : X.env.scope.kind = .function) {x y : Str} (h : swap2 X.env.scope x y px py u v = true) :
    swappedStores [.Tuple [.Name x px, .Name y py] kk pt] (.Tuple [u, v] k2 pt2) X.env = pure (some [x, y]) := by
  unfold swap2 at h
  simp only [Bool.and_eq_true, decide_eq_true_eq, Bool.not_eq_true', beq_iff_eq] at h
  obtain ⟨⟨⟨⟨⟨⟨⟨h1, h2⟩, h3⟩, h4⟩, h5⟩, h6⟩, h7⟩, h8⟩ := h
  have k1 : X.env.kindOf x = some .local := h1
  have k2 : X.env.kindOf y = some .local := h2
  have hb : X.env.blockKind = .function := by unfold Env.blockKind; rw [hk]; rfl
  have hne : (x == y) = false := h4
  have st : ([u, v].any fun | .Starred .. => true | _ => false) = false := by
    have q : ∀ w : Expr, plainA w = true → (match w with | .Starred .. => true | _ => false) = false := fun w hw => by
      cases w <;> first | rfl | cases hw
    simp only [List.any_cons, List.any_nil, q u h5, q v h6, Bool.or_false]
  have l1 : (if (X.env.kindOf x == some NameKind.local && px.line == px.line) = true then some x else none) = some x := by rw [k1]; simp
  have l2 : (if (X.env.kindOf y == some NameKind.local && py.line == px.line) = true then some y else none) = some y := by rw [k2, h3]; simp
  have nm : ([Expr.Name x px, Expr.Name y py].filterMap fun
        | .Name id pos => if (X.env.kindOf id == some NameKind.local && pos.line == px.line) = true then some id else none
        | _ => none) = [x, y] := by
    simp only [List.filterMap_cons, List.filterMap_nil, l1, l2]
  have hd : (([Expr.Name x px, Expr.Name y py].head?.map (·.pos.line)).getD 0) = px.line := rfl
  have er : ([x, y] : List Str).eraseDups = [x, y] := by
    have : (y == x) = false := by
      cases q : (y == x) with
      | false => rfl
      | true =>
        rw [eq_of_beq q, beq_self_eq_true] at hne
        cases hne
    simp [List.eraseDups, List.eraseDupsBy, List.eraseDupsBy.loop, this]
  have f1 : [u, v].all (foldedForSure 8) = false := by
    simpa using h7
  have f2 : [u, v].all (constantsAlone 8) = false := by
    simpa using h8
  show (do
      if !(([Expr.Name x px, Expr.Name y py]).length == 2 || ([Expr.Name x px, Expr.Name y py]).length == 3) || ([u, v]).length != ([Expr.Name x px, Expr.Name y py]).length || X.env.blockKind != .function then return none
      if [u, v].any fun | .Starred .. => true | _ => false then return none
      let line := (([Expr.Name x px, Expr.Name y py]).head?.map (·.pos.line)).getD 0
      let names := [Expr.Name x px, Expr.Name y py].filterMap fun
        | .Name id pos => if X.env.kindOf id == some .local && pos.line == line then some id else none
        | _ => none
      if names.length != ([Expr.Name x px, Expr.Name y py]).length || names.eraseDups.length != names.length then return none
      if [u, v].all (foldedForSure 8) then return none
      if [u, v].all (constantsAlone 8) then unsupported "assign.tuple-of-constant-expressions:order-of-the-stores"
      return some names : Sem (Option (List Str))) = pure (some [x, y])
  rw [hb, st]
  dsimp only
  rw [hd, nm, er, f1, f2]
  rfl

def gV (F : Fr0) (o : Bool) : Hp → Sh → Hp → St → V → D → Prop := if o = true then gNew F else gSt F
theorem SE.peV (h : SE R0 X e v) {o : Bool} (hv : okV R0.F.own o e = true) : PE X v (tG R0 e.muts (evE R0.call e) (gV R0.F o)) := by
  unfold okV at hv
  simp only [Bool.and_eq_true, Bool.or_eq_true, Bool.not_eq_true'] at hv
  unfold gV
  cases o with
  | false => exact h.peSt hv.1
  | true =>
    have := h.pe
    rw [ge_new (hv.2.resolve_left fun z => nomatch z)] at this
    exact this
section
variable {F : Fr0} {S S1 S2 : Sh} {H H1 H2 : Hp} {σ : St} {ρ ρ1 : EV.Env} {d : D} {w : V} {o : Bool} {ms : List Nat}
/-- what a slot is given -/
def gotV (F : Fr0) (o : Bool) (S : Sh) (H : Hp) (σ : St) (v : V) (d : D) : Prop :=
  if o = true then Own F.K F.FA S H v d ∧ ∀ a, v = .ref a → (∀ j ∈ F.own, σ[j]? ≠ some (some (.ref a))) ∧ F.H0 a = none else Den F.K F.FA S H v d
theorem EnvOk.setV (E : EnvOk F S H σ ρ) (hl : i < ρ.length) (ho : o = F.own.contains i) (hio : F.io = none ∨ i ≠ 0) (g : gotV F o S H σ w d) : EnvOk F S H (σ.set i (some w)) (ρ.set i (some d)) := by
  unfold gotV at g
  split at g
  · rename_i hc
    rw [hc] at ho
    obtain ⟨⟨a, xs, ds, rfl, h1, h2, h3, h4⟩, g2⟩ := g
    obtain ⟨n1, n2⟩ := g2 a rfl
    exact E.setO (cont_mem ho.symm) hl hio ⟨a, xs, ds, rfl, h1, h2, h3, h4⟩ n1 n2
  · rename_i hc
    refine E.setS (fun z => hc ?_) hl g
    rw [ho]
    exact List.contains_iff_mem.mpr z
theorem gV.got (E : EnvOk F S H σ ρ) (hv : okO o d = true) (g : gV F o H S1 H1 σ w d) : gotV F o S1 H1 σ w d := by
  unfold gV at g
  unfold gotV
  split at g
  · rename_i hc
    rw [if_pos hc]
    rcases g with ⟨ow, nw⟩ | ⟨nl, _⟩
    · exact ⟨ow, fun a e => ⟨new_slot E (nw a e), new_h0 E (nw a e)⟩⟩
    · rw [hc] at hv
      cases d <;> first | exact absurd rfl (nl _) | cases hv
  · rename_i hc
    rw [if_neg hc]
    exact g
theorem gotV.step (g : gotV F o S H σ w d) (E : EnvOk F S H σ ρ) (hm : ∀ j ∈ ms, j ∈ F.own) (st : Stp S H ms σ S1 H1) : gotV F o S1 H1 σ w d := by
  unfold gotV at *
  split at g
  · rename_i hc
    rw [if_pos hc]
    refine ⟨g.1.step st.ext fun a ea b hb => st.but a b hb fun j hj => (g.2 a ea).1 j (hm j hj), g.2⟩
  · rename_i hc
    rw [if_neg hc]
    exact g.ext st.ext
end
theorem par_red {oi oj : Bool} {D' : Ends} {σ : St} {H : Hp} (hij : i ≠ j) (hio : R0.F.io = none ∨ (i ≠ 0 ∧ j ≠ 0)) (h1o : oi = R0.F.own.contains i) (h2o : oj = R0.F.own.contains j) (hma : ∀ j ∈ a.muts, j ∈ R0.F.own) (hmb : ∀ j ∈ b.muts, j ∈ R0.F.own)
    (h : tSt R0 fr (EV.S.asg2 oi oj i j a b).tch (evS R0.call wf (.asg2 oi oj i j a b)) D' σ H) : tPar i j (tCons (tG R0 a.muts (evE R0.call a) (gV R0.F oi)) (tCons (tG R0 b.muts (evE R0.call b) (gV R0.F oj)) tNil)) D' σ H := by
  obtain ⟨S, ρ, h⟩ := h
  have E0 := h.1
  refine tGat.tG (S := S) (ρ := ρ) (tSat.step hma (fun j m => List.mem_cons_of_mem _ (List.mem_cons_of_mem _ (memL m))) h fun d ρ1 v S1 H1 N1 g1 h1 => ?_)
  have E1 := h1.1
  refine tGat.tG (tSat.step hmb (fun j m => List.mem_cons_of_mem _ (List.mem_cons_of_mem _ (memR m))) h1 fun d2 ρ2 w S2 H2 N2 g2 h2 => ?_)
  obtain ⟨E2, h2⟩ := h2
  have h2 : KR (if okO oi d && okO oj d2 && decide (i < ρ2.length) && decide (j < ρ2.length) then .ok Fl.nx ((ρ2.set i (some d)).set j (some d2)) else .bad) _ _ := h2
  split at h2
  · rename_i hc
    simp only [Bool.and_eq_true, decide_eq_true_eq] at hc
    obtain ⟨⟨⟨c1, c2⟩, c3⟩, c4⟩ := hc
    have h2 : ∀ σ' S' H', NxS R0.F S2 H2 σ (EV.S.asg2 oi oj i j a b).tch S' H' σ' ((ρ2.set i (some d)).set j (some d2)) → D'.nx σ' H' := h2
    have k1 := (gV.got E0 c1 g1).step E1 hmb N2.stp
    have k2 := gV.got E1 c2 g2
    have Ea := E2.setV c3 h1o (hio.imp (fun z => z) fun z => z.1) k1
    refine ⟨v, w, rfl, h2 _ S2 H2 (NxS.same (Ea.setV (by rw [List.length_set]; exact c4) h2o (hio.imp (fun z => z) fun z => z.2) ?_) (Ext.refl _ _) (fun m hm hn => ?_) (Same.refl _))⟩
    · unfold gotV at k2 ⊢
      split at k2
      · rename_i hc
        rw [if_pos hc]
        refine ⟨k2.1, fun a ea => ⟨fun m hm e => ?_, (k2.2 a ea).2⟩⟩
        by_cases him : i = m
        · subst him
          rw [List.getElem?_set_self (by rw [E2.len]; exact c3)] at e
          have ev : v = .ref a := Option.some.inj (Option.some.inj e)
          have e1 : oi = true := by rw [h1o]; exact List.contains_iff_mem.mpr hm
          subst ev
          unfold gV at g1 g2
          rw [if_pos e1] at g1
          rw [if_pos hc] at g2
          rcases g1 with ⟨⟨a1, xs1, ds1, q1, _, q2, _, _⟩, _⟩ | ⟨nl, _⟩
          · cases q1
            rcases g2 with ⟨_, nw⟩ | ⟨nl, _⟩
            · rw [nw a ea] at q2; cases q2
            · rw [hc] at c2
              cases d2 <;> first | exact absurd rfl (nl _) | cases c2
          · rw [e1] at c1
            cases d <;> first | exact absurd rfl (nl _) | cases c1
        · rw [List.getElem?_set_ne him] at e
          exact (k2.2 a ea).1 m hm e
      · rename_i hc
        rw [if_neg hc]
        exact k2
    · have n1 : i ≠ m := fun z => hn (z ▸ List.mem_cons_self)
      have n2 : j ≠ m := fun z => hn (z ▸ List.mem_cons_of_mem _ List.mem_cons_self)
      rw [List.getElem?_set_ne n2, List.getElem?_set_ne n1]
  · exact h2.elim
theorem s_asg2 (hX : XS P R0 k X) {oi oj : Bool} {kk k2 : Nat} {pt2 : Pos} {x y : Str} (hi : X.N[i]? = some x) (hj : X.N[j]? = some y) (hsw : swap2 X.env.scope x y px py u v = true) (ha : SE R0 X a u) (hb : SE R0 X b v) (va : okV R0.F.own oi a = true) (vb : okV R0.F.own oj b = true)
    (hij : i ≠ j) (hio : R0.F.io = none ∨ (i ≠ 0 ∧ j ≠ 0)) (h1o : oi = R0.F.own.contains i) (h2o : oj = R0.F.own.contains j) (hma : ∀ j ∈ a.muts, j ∈ R0.F.own) (hmb : ∀ j ∈ b.muts, j ∈ R0.F.own) :
    PS X (.Assign [.Tuple [.Name x px, .Name y py] kk pt] (.Tuple [u, v] k2 pt2) pos) (tSt R0 fr (EV.S.asg2 oi oj i j a b).tch (evS R0.call wf (.asg2 oi oj i j a b))) := by
  have hs := hsw
  unfold swap2 at hs
  simp only [Bool.and_eq_true, decide_eq_true_eq, Bool.not_eq_true', beq_iff_eq] at hs
  obtain ⟨⟨⟨⟨⟨⟨⟨s1, s2⟩, s3⟩, s4⟩, s5⟩, s6⟩, s7⟩, s8⟩ := hs
  exact (ps_par hX.calm hX.nd hi hj hij s1 s2 (pa_cons (ha.peV va) (pa_cons (hb.peV vb) pa_nil (starEach_cons s6)) (starEach_cons s5)) (swap2_of hX.kind hsw) rfl).evImp fun D' σ H h => par_red hij hio h1o h2o hma hmb h

/-! ### +=, a place, append -/
theorem s_aug (hX : XS P R0 k X) (h1 : X.N[i]? = some z) (hl : locB X.env.scope z = true) (hi : i ∉ R0.F.own) (he : SE R0 X e v) (se : e.st R0.F.own = true) (hm : ∀ j ∈ e.muts, j ∈ R0.F.own) :
    PS X (.AugAssign (.Name z px) .Add v pos) (tSt R0 fr (EV.S.aug i e).tch (evS R0.call wf (.aug i e))) := by
  obtain ⟨l1, l2⟩ := locB_of hX.sx hl
  refine (ps_aug hX.nd h1 l1 (he.peSt se) ip_add l2).evImp fun D' σ H h => ?_
  obtain ⟨S, ρ, E0, h⟩ := h
  have h' : KR (match ρ.getD i none with
      | some (.int k) => (evE R0.call e ρ).bind fun d ρ => match d with | .int j => .ok Fl.nx (ρ.set i (some (.int (k + j)))) | _ => .bad
      | _ => .bad) _ _ := h
  cases q0 : ρ.getD i none with
  | none => rw [q0] at h'; exact h'.elim
  | some d0 =>
    rw [q0] at h'
    cases d0 with
    | int n =>
      obtain ⟨v0, a1, a2⟩ := E0.sh i _ hi (getD_some q0)
      have h'' : tSat R0 fr (EV.S.aug i e).tch (fun ρ => (evE R0.call e ρ).bind fun d ρ => match d with | .int j => .ok Fl.nx (ρ.set i (some (.int (n + j)))) | _ => .bad) D' σ H S ρ := ⟨E0, h'⟩
      refine ⟨v0, a1, tGat.tG (tSat.step hm (fun j m => m) h'' fun d ρ1 w S1 H1 N1 g1 h1 => ?_)⟩
      obtain ⟨E1, h1⟩ := h1
      cases d with
      | int m =>
        have h1 : ∀ σ' S' H', NxS R0.F S1 H1 σ (EV.S.aug i e).tch S' H' σ' (ρ1.set i (some (.int (n + m)))) → D'.nx σ' H' := h1
        refine ⟨n, m, den_int a2, den_int g1, h1 _ S1 H1 (NxS.same (E1.setS hi ?_ (.int _)) (Ext.refl _ _) (fun j hj _ => List.getElem?_set_ne (by intro z; subst z; exact hi hj)) (Same.refl _))⟩
        rw [← E1.len]
        exact (List.getElem?_eq_some_iff.mp a1).1
      | _ => exact h1.elim
    | _ => exact h'.elim
theorem sub_assign {o y : Expr} {pos : Pos} {env : PySem.Env} (h : noSlice y = true) (v : Value) : assign (.Subscript o y pos) env v = (holding [v] (eval o env) >>= fun u => holding [v, u] (eval y env) >>= fun w => standAt pos >>= fun _ => holding [v, u, w] (setItem u w v) >>= fun _ => release [v, u, w] []) := by
  cases y <;> first | rfl | cases h
theorem s_store (hX : XS P R0 k X) (h1 : X.N[i]? = some z) (hv : visB X.env.scope z = true) (hi : i ∈ R0.F.own) (hn : noSlice y = true) (hx : SE R0 X ix y) (sx : ix.st R0.F.own = true) (hmx : ∀ j ∈ ix.muts, j ∈ R0.F.own) (he : SE R0 X e v) (se : e.st R0.F.own = true) (hm : ∀ j ∈ e.muts, j ∈ R0.F.own) (hp : noComp v = true) :
    PS X (.Assign [.Subscript (.Name z px) y py] v pos) (tSt R0 fr (EV.S.store i ix e).tch (evS R0.call wf (.store i ix e))) := by
  obtain ⟨v1, v2, v3⟩ := visB_of hv
  refine (ps_asg (he.peSt se) (pg_sub (pe_var h1 v1 v2 v3) (hx.peSt sx) set_list (sub_assign hn)) (swSoleF hp _ _) (by cases v <;> rfl) rfl).evImp fun D' σ H h => ?_
  obtain ⟨S, ρ, h⟩ := h
  refine tGat.tG (S := S) (ρ := ρ) (tSat.step hm (fun j m => List.mem_cons_of_mem _ (memR m)) h fun d ρ1 w S1 H1 N1 g1 h1 => ?_)
  obtain ⟨E1, h1⟩ := h1
  have h1 : KR (match ρ1.getD i none with
      | some _ => (evE R0.call ix ρ1).bind fun k ρ => match ρ.getD i none, k with
        | some (.lst ds), .int k => match ixN ds.length k with
          | some j => .ok Fl.nx (ρ.set i (some (.lst (ds.set j d))))
          | none => .bad
        | _, _ => .bad
      | none => .bad) _ _ := h1
  cases q0 : ρ1.getD i none with
  | none => rw [q0] at h1; exact h1.elim
  | some d0 =>
    rw [q0] at h1
    obtain ⟨p, xs0, ds0, a1, a2, a3, a4, a5⟩ := E1.addr hi (getD_some q0)
    have h2 : tSat R0 fr (EV.S.store i ix e).tch (fun ρ => (evE R0.call ix ρ).bind fun k ρ => match ρ.getD i none, k with
        | some (.lst ds), .int k => match ixN ds.length k with
          | some j => .ok Fl.nx (ρ.set i (some (.lst (ds.set j d))))
          | none => .bad
        | _, _ => .bad) D' σ H1 S1 ρ1 := ⟨E1, h1⟩
    refine ⟨.ref p, a1, tGat.tG (tSat.step hmx (fun j m => List.mem_cons_of_mem _ (memL m)) h2 fun kk ρ2 w2 S2 H2 N2 g2 h3 => ?_)⟩
    obtain ⟨E2, h3⟩ := h3
    dsimp only at h3
    cases q1 : ρ2.getD i none with
    | none => rw [q1] at h3; exact h3.elim
    | some d1 =>
      obtain ⟨p', xs1, ds1, b1, b2, b3, rfl, b5⟩ := E2.addr hi (getD_some q1)
      rw [a1] at b1
      cases b1
      rw [q1] at h3
      cases kk with
      | int m =>
        have h3 : KR (match ixN ds1.length m with
          | some j => .ok Fl.nx (ρ2.set i (some (.lst (ds1.set j d))))
          | none => .bad) _ _ := h3
        cases qj : ixN ds1.length m with
        | none => rw [qj] at h3; exact h3.elim
        | some j =>
          rw [qj] at h3
          have h3 : ∀ σ' S' H', NxS R0.F S2 H2 σ (EV.S.store i ix e).tch S' H' σ' (ρ2.set i (some (.lst (ds1.set j d)))) → D'.nx σ' H' := h3
          refine ⟨p, xs1, m, j, rfl, den_int g2, b3, by rw [b5.length]; exact qj, ?_⟩
          have N3 : Nxt R0.F S2 H2 [i] σ ρ2 S2 (upd H2 p (.lst (xs1.set j w))) (ρ2.set i (some (.lst (ds1.set j d)))) := Nxt.upd E2 hi (getD_some q1) a1 b2 b3 (DenAll.set (g1.ext N2.stp.ext) j b5) List.mem_cons_self
          exact h3 σ S2 _ (N3.nxs E2 (fun j hj => by rw [List.mem_singleton.mp hj]; exact hi) fun j hj => by rw [List.mem_singleton.mp hj]; exact List.mem_cons_self)
      | _ => exact h3.elim
theorem s_app (hX : XS P R0 k X) {ap cp : Pos} (hl : (ap.endLine == cp.line) = true) (hp : plainA v = true) (h1 : X.N[i]? = some z) (hv : visB X.env.scope z = true) (hi : i ∈ R0.F.own) (he : SE R0 X e v) (se : e.st R0.F.own = true) (hm : ∀ j ∈ e.muts, j ∈ R0.F.own) :
    PS X (.Expr (.Call (.Attribute (.Name z px) "append" ap) [v] [] cp) pos) (tSt R0 fr (EV.S.app i e).tch (evS R0.call wf (.app i e))) := by
  obtain ⟨v1, v2, v3⟩ := visB_of hv
  refine (ps_expr (pe_bm F.plainAttrs_list F.slot_list_append F.type_list_append mt_append (pe_var h1 v1 v2 v3) (pa_cons (he.peSt se) pa_nil (starEach_cons hp)) rfl (few1 hp) hl (starEach_cons hp) rfl) rfl).evImp fun D' σ H h => ?_
  obtain ⟨S, ρ, E0, h⟩ := h
  have h' : KR (match ρ.getD i none with
      | some _ => (evE R0.call e ρ).bind fun d ρ => match ρ.getD i none with
        | some (.lst ds) => if ds.length < sizeLine then .ok Fl.nx (ρ.set i (some (.lst (ds ++ [d])))) else .bad
        | _ => .bad
      | none => .bad) _ _ := h
  cases q0 : ρ.getD i none with
  | none => rw [q0] at h'; exact h'.elim
  | some d0 =>
    rw [q0] at h'
    obtain ⟨p, xs0, ds0, a1, a2, a3, a4, a5⟩ := E0.addr hi (getD_some q0)
    have h2 : tSat R0 fr (EV.S.app i e).tch (fun ρ => (evE R0.call e ρ).bind fun d ρ => match ρ.getD i none with
        | some (.lst ds) => if ds.length < sizeLine then .ok Fl.nx (ρ.set i (some (.lst (ds ++ [d])))) else .bad
        | _ => .bad) D' σ H S ρ := ⟨E0, h'⟩
    refine ⟨.ref p, a1, .inl ⟨rfl, xs0, .inl (.inl a3)⟩, tGat.tG (tSat.step hm (fun j m => List.mem_cons_of_mem _ m) h2 fun d ρ1 w S1 H1 N1 g1 h3 => ?_)⟩
    obtain ⟨E1, h3⟩ := h3
    dsimp only at h3
    cases q1 : ρ1.getD i none with
    | none => rw [q1] at h3; exact h3.elim
    | some d1 =>
      obtain ⟨p', xs1, ds1, b1, b2, b3, rfl, b5⟩ := E1.addr hi (getD_some q1)
      rw [a1] at b1
      cases b1
      rw [q1] at h3
      have h3 : KR (if ds1.length < sizeLine then .ok Fl.nx (ρ1.set i (some (.lst (ds1 ++ [d])))) else .bad) _ _ := h3
      split at h3
      · rename_i hz
        have h3 : ∀ σ' S' H', NxS R0.F S1 H1 σ (EV.S.app i e).tch S' H' σ' (ρ1.set i (some (.lst (ds1 ++ [d])))) → D'.nx σ' H' := h3
        refine ⟨p, xs1, w, rfl, rfl, b3, by rw [b5.length]; exact hz, ?_⟩
        have N3 : Nxt R0.F S1 H1 [i] σ ρ1 S1 (upd H1 p (.lst (xs1 ++ [w]))) (ρ1.set i (some (.lst (ds1 ++ [d])))) := Nxt.upd E1 hi (getD_some q1) a1 b2 b3 (b5.append (.cons g1 .nil)) List.mem_cons_self
        exact h3 σ S1 _ (N3.nxs E1 (fun j hj => by rw [List.mem_singleton.mp hj]; exact hi) fun j hj => by rw [List.mem_singleton.mp hj]; exact List.mem_cons_self)
      · exact h3.elim
theorem s_expr (hX : XS P R0 k X) (he : SE R0 X e v) (hm : ∀ j ∈ e.muts, j ∈ R0.F.own) (hp : noComp v = true) : PS X (.Expr v pos) (tSt R0 fr (EV.S.expr e).tch (evS R0.call wf (.expr e))) := by
  refine (ps_expr he.pe (swF hp _ _ _)).evImp fun D' σ H h => ?_
  obtain ⟨S, ρ, h⟩ := h
  exact tGat.tG (S := S) (ρ := ρ) (tSat.step hm (fun j m => m) h fun d ρ1 w S1 H1 N1 g1 h1 => tSat.next h1)
end
end EV
end
section
set_option autoImplicit false
/-! Ev17: return, if, loops, raise, try. -/
namespace EV
open PySem PySem.Spec PyProof.Rows L2

section
variable {P : Pg} {R0 : Rd0} {k : Nat} {X : Cx} {fr : Bool} {e a b c ix : E} {v x y u : Expr} {i j : Nat} {pos p1 p2 px py pt : Pos} {z : Str} {wf : Nat} {tk : List Nat} {sa sb : Ss} {ps qs : List Stmt}

/-- a suite and its text -/
def SSs (R0 : Rd0) (fr : Bool) (wf : Nat) (X : Cx) (ss : Ss) (ps : List Stmt) : Prop := PSs X ps (tSt R0 fr ss.tch (evSs R0.call wf ss))

/-! ### return -/
theorem io_out {F : Fr0} {S : Sh} {H : Hp} {σ : St} {ρ : EV.Env} (E : EnvOk F S H σ ρ) : ∀ a, F.io = some a → ∃ out, ρ.getD 0 none = some out ∧ Own F.K F.FA S H (.ref a) out := fun a h => by
  obtain ⟨h1, h2, d, h3⟩ := E.inout a h
  obtain ⟨w, g1, g2⟩ := E.ow 0 d h1 h3
  rw [h2] at g1
  cases g1
  exact ⟨d, by rw [List.getD_eq_getElem?_getD, h3]; rfl, g2⟩
theorem s_ret (hX : XS P R0 k X) (he : SE R0 X e v) (hm : ∀ j ∈ e.muts, j ∈ R0.F.own) {io : Bool} (hio : R0.F.io ≠ none → io = true) (hr : retOk R0.F.own io fr e = true) : PS X (.Return (some v) pos) (tSt R0 fr (EV.S.ret e).tch (evS R0.call wf (.ret e))) := by
  have n0 : (!io || !(e.flags R0.F.own).contains 0) = true → ∀ a, R0.F.io = some a → 0 ∉ e.flags R0.F.own := fun h a ha => by
    rw [hio (by rw [ha]; exact fun z => nomatch z)] at h
    exact ncont_mem (by simpa using h)
  unfold retOk at hr
  cases fr with
  | true =>
    rw [if_pos rfl, Bool.or_eq_true] at hr
    rcases hr with hr | hr
    · rw [Bool.and_eq_true] at hr
      have pe := he.pe
      rw [ge_new hr.1] at pe
      refine (ps_ret pe).evImp fun D' σ H h => ?_
      obtain ⟨S, ρ, h⟩ := h
      have E0 := h.1
      refine tGat.tG (S := S) (ρ := ρ) (tSat.step hm (fun j m => m) h fun d ρ1 w S1 H1 N1 g1 h1 => ?_)
      obtain ⟨E1, h1⟩ := h1
      have h1 : ∀ v S' H', RetOk R0.F true S' H' v d ρ1 → D'.rt v H' := h1
      refine h1 w S1 H1 ⟨E1.entry, E1.frame, io_out E1, ?_⟩
      rw [if_pos rfl]
      exact g1.imp (fun g => ⟨g.1, fun a e => new_h0 E0 (g.2 a e)⟩) fun g => g
    · simp only [Bool.and_eq_true, Bool.not_eq_true'] at hr
      obtain ⟨⟨hv, hs⟩, h0⟩ := hr
      have pe : PE X v (tG R0 e.muts (evE R0.call e) (fun _ S H σ v d => Own R0.F.K R0.F.FA S H v d ∧ ∀ i ∈ e.flags R0.F.own, σ[i]? = some (some v))) := by
        have pe := he.pe
        unfold gE at pe
        rw [if_neg (fun z => by rw [fresh_novar z] at hv; cases hv), if_neg (fun z => by unfold E.st at hs; rw [z] at hs; cases hs), if_pos hv] at pe
        exact pe
      refine (ps_ret pe).evImp fun D' σ H h => ?_
      obtain ⟨S, ρ, h⟩ := h
      refine tGat.tG (S := S) (ρ := ρ) (tSat.step hm (fun j m => m) h fun d ρ1 w S1 H1 N1 g1 h1 => ?_)
      obtain ⟨E1, h1⟩ := h1
      have h1 : ∀ v S' H', RetOk R0.F true S' H' v d ρ1 → D'.rt v H' := h1
      refine h1 w S1 H1 ⟨E1.entry, E1.frame, io_out E1, ?_⟩
      rw [if_pos rfl]
      refine .inl ⟨g1.1, fun a ea => ?_⟩
      subst ea
      cases hfl : e.flags R0.F.own with
      | nil => unfold E.st at hs; rw [hfl] at hs; cases hs
      | cons i r =>
        have hi : i ∈ e.flags R0.F.own := by rw [hfl]; exact List.mem_cons_self
        have ho := E.flags_own hi
        have hσ := g1.2 i hi
        obtain ⟨d', q⟩ := E1.slot ho hσ
        rcases E1.mine i a d' ho q hσ with z | z
        · exact z
        · exfalso
          obtain ⟨i1, i2, d3, i3⟩ := E1.inout a z
          exact n0 (by simpa using h0) a z (E1.apart i 0 a d' d3 ho i1 q i3 hσ i2 ▸ hi)
  | false =>
    rw [if_neg Bool.false_ne_true] at hr
    have n0 := n0 hr
    refine (ps_ret he.peFl).evImp fun D' σ H h => ?_
    obtain ⟨S, ρ, h⟩ := h
    refine tGat.tG (S := S) (ρ := ρ) (tSat.step hm (fun j m => m) h fun d ρ1 w S1 H1 N1 g1 h1 => ?_)
    obtain ⟨E1, h1⟩ := h1
    have h1 : ∀ v S' H', RetOk R0.F false S' H' v d ρ1 → D'.rt v H' := h1
    have y := E1.entry
    have noio : ∀ a, R0.F.io = some a → ∀ j ∈ e.flags R0.F.own, σ[j]? ≠ some (some (.ref a)) := fun a ha j hj hσ => by
      have ho := E.flags_own hj
      obtain ⟨d', q⟩ := E1.slot ho hσ
      obtain ⟨i1, i2, d3, i3⟩ := E1.inout a ha
      exact n0 a ha (E1.apart j 0 a d' d3 ho i1 q i3 hσ i2 ▸ hj)
    refine h1 w (Flg S1 (e.flags R0.F.own) σ) H1 ⟨⟨fun b h => .inl (y.sub b h), y.keep, y.tups, y.frzs, y.live, fun b h => ?_⟩, E1.frame, fun a ha => ?_, ?_⟩
    · rcases h with h | ⟨j, hj, hσ⟩
      · exact y.new b h
      · have ho := E.flags_own hj
        obtain ⟨d', q⟩ := E1.slot ho hσ
        obtain ⟨a', xs, ds, g1, _, g3, _⟩ := E1.addr ho q
        rw [hσ] at g1
        cases g1
        rcases E1.mine j b d' ho q hσ with z | z
        · exact .inr ⟨z, _, g3⟩
        · exact absurd hσ (noio b z j hj)
    · obtain ⟨out, q, a', xs, ds, e1, ns, h3, e2, h5⟩ := io_out E1 a ha
      cases e1
      refine ⟨out, q, a, xs, ds, rfl, fun z => ?_, h3, e2, h5.more fun _ h => .inl h⟩
      rcases z with z | ⟨j, hj, hσ⟩
      · exact ns z
      · exact noio a ha j hj hσ
    · rw [if_neg Bool.false_ne_true]
      exact g1
theorem s_retN : PS X (.Return none pos) (tSt R0 fr EV.S.retN.tch (evS R0.call wf .retN)) := by
  refine ps_retN.evImp fun D' σ H h => ?_
  obtain ⟨S, ρ, E0, h⟩ := h
  have h : ∀ v S' H', RetOk R0.F fr S' H' v .non ρ → D'.rt v H' := h
  refine h .non S H ⟨E0.entry, fun b o e n => E0.frame b o e n, io_out E0, ?_⟩
  split
  · exact .inr ⟨(fun _ e => nomatch e), .non⟩
  · exact .non

/-! ### if -/
theorem s_if (hX : XS P R0 k X) (hc : SE R0 X c x) (wc : c.w R0.F.own = true) (hm : ∀ j ∈ c.muts, j ∈ R0.F.own) (ha : SSs R0 fr wf X sa ps) (hb : SSs R0 fr wf X sb qs) : PS X (.If x ps qs pos) (tSt R0 fr (EV.S.if_ c sa sb).tch (evS R0.call wf (.if_ c sa sb))) := by
  refine (ps_if (hc.pt wc) ha hb).evImp fun D' σ H h => ?_
  obtain ⟨S, ρ, h⟩ := h
  refine tSat.stepC (ms := c.muts) (f := evC R0.call c) hm (fun j m => memL m) h fun t ρ1 S1 H1 N1 h1 => ?_
  cases t with
  | true => exact (tSat.mono (fun j m => memR (memL m)) h1).tSt
  | false => exact (tSat.mono (fun j m => memR (memR m)) h1).tSt
theorem s_never {st : Stmt} : PS X st (tSt R0 fr EV.S.never.tch (evS R0.call wf .never)) := ps_never.evImp fun D' σ H h => by
  obtain ⟨S, ρ, E0, h⟩ := h
  exact h.elim
/-! ### suites -/
theorem ss_nil : SSs R0 fr wf X .nil [] := pss_nil.evImp fun D' σ H h => by
  obtain ⟨S, ρ, h⟩ := h
  exact tSat.next h
theorem ss_cons {s : EV.S} {st : Stmt} (h1 : PS X st (tSt R0 fr s.tch (evS R0.call wf s))) (h2 : SSs R0 fr wf X sa ps) : SSs R0 fr wf X (.cons s sa) (st :: ps) := by
  refine (pss_cons h1 h2).evImp fun D' σ H h => ?_
  obtain ⟨S, ρ, E0, h⟩ := h
  have h : KR ((evS R0.call wf s ρ).bind fun f ρ1 => match f with
    | .nx => evSs R0.call wf sa ρ1
    | f => .ok f ρ1) _ _ := h
  refine ⟨S, ρ, E0, h.bind.imp (fun fl ρ1 h => ?_) fun x ρ1 h => exS_less (fun j => memL) h⟩
  cases fl with
  | nx =>
    intro σ1 S1 H1 N
    have N := N.mono (tk' := s.tch ++ sa.tch) fun j => memL
    refine ⟨S1, ρ1, N.ok, h.imp (fun fl ρ2 h => kFl_less (fun j => memR) (kFl_back N h)) fun x ρ2 h => exS_less (fun j => memR) (exS_back N h)⟩
  | ret d => exact h
  | bk =>
    intro σ1 S1 H1 N
    exact h σ1 S1 H1 (N.mono fun j => memL)
  | ct =>
    intro σ1 S1 H1 N
    exact h σ1 S1 H1 (N.mono fun j => memL)
theorem ss_doc {s : Str} {kk : Nat} (h2 : SSs R0 fr wf X sa ps) : SSs R0 fr wf X sa (.Expr (.Constant (.str s) kk p1) pos :: ps) := (pss_cons ps_doc h2).evImp fun D' σ H h => h

/-! ### while -/
theorem s_while (hX : XS P R0 k X) (hc : SE R0 X c x) (wc : c.w R0.F.own = true) (hm : ∀ j ∈ c.muts, j ∈ R0.F.own) (ha : SSs R0 fr wf X sa ps) : PS X (.While x ps [] pos) (tSt R0 fr (EV.S.while_ c sa).tch (evS R0.call wf (.while_ c sa))) := by
  refine (ps_while hX.hp (hc.pt wc) ha).evImp fun D' σ H h => ?_
  obtain ⟨S, ρ, h⟩ := h
  refine ⟨fun m σ1 H1 => tSt R0 fr (EV.S.while_ c sa).tch (whileGo (evC R0.call c) (evSs R0.call wf sa) m) D' σ1 H1, ⟨wf, S, ρ, h⟩, ?_⟩
  rintro m σ1 H1 ⟨S1, ρ1, h1⟩
  cases m with
  | zero => exact h1.2.elim
  | succ m =>
    refine tSat.stepC (ms := c.muts) hm (fun j m => memL m) h1 fun t ρ2 S2 H2 N2 h2 => ?_
    cases t with
    | false => exact tSat.next h2
    | true =>
      refine ⟨fun σ' H' => tSt R0 fr (EV.S.while_ c sa).tch (whileGo (evC R0.call c) (evSs R0.call wf sa) m) D' σ' H', fun σ' H' hN => ⟨m, Nat.lt_succ_self m, hN⟩, ?_⟩
      obtain ⟨E2, h2⟩ := h2
      have h2 : KR ((evSs R0.call wf sa ρ2).bind fun o ρ2 => match o with
        | .nx => whileGo (evC R0.call c) (evSs R0.call wf sa) m ρ2
        | .ct => whileGo (evC R0.call c) (evSs R0.call wf sa) m ρ2
        | .bk => .ok .nx ρ2
        | .ret d => .ok (.ret d) ρ2) _ _ := h2
      refine ⟨S2, ρ2, E2, h2.bind.imp (fun fl ρ3 h => ?_) fun x ρ3 h => exS_less (fun j => memR) h⟩
      have go : KR (whileGo (evC R0.call c) (evSs R0.call wf sa) m ρ3) (kFl R0 fr (EV.S.while_ c sa).tch D' S2 H2 σ1) (R0.exS (EV.S.while_ c sa).tch S2 H2 σ1) → ∀ σ' S' H', NxS R0.F S2 H2 σ1 sa.tch S' H' σ' ρ3 → tSt R0 fr (EV.S.while_ c sa).tch (whileGo (evC R0.call c) (evSs R0.call wf sa) m) D' σ' H' := fun h σ' S' H' N => by
        have N := N.mono (tk' := (EV.S.while_ c sa).tch) fun j => memR
        exact ⟨S', ρ3, N.ok, h.imp (fun fl ρ4 h => kFl_back N h) fun x ρ4 h => exS_back N h⟩
      cases fl with
      | nx => exact fun σ' S' H' N => go h σ' S' H' N
      | ct => exact fun σ' S' H' N => go h σ' S' H' N
      | bk => exact fun σ' S' H' N => (show ∀ σ' S' H', NxS R0.F S2 H2 σ1 (EV.S.while_ c sa).tch S' H' σ' ρ3 → D'.nx σ' H' from h) σ' S' H' (N.mono fun j => memR)
      | ret d => exact h
/-! ### for -/
theorem s_for (hX : XS P R0 k X) {t : Tg} {it : EV.It} {tg iter : Expr} (ht : chkT X.N X.env.scope t tg = true) (ho : ∀ i ∈ t.slots, i ∉ R0.F.own) (hi : SI R0 X it tg iter) (hm : ∀ j ∈ it.muts, j ∈ R0.F.own) (hfl : ∀ j ∈ it.flags R0.F.own, j ∉ sa.tch) (ha : SSs R0 fr wf X sa ps) : PS X (.For tg iter ps [] pos) (tSt R0 fr (EV.S.for_ t it sa).tch (evS R0.call wf (.for_ t it sa))) := by
  refine (ps_for hX.hp hX.calm hi.pi (soundT hX.toXOk hX.sx t ht ho) ha hi.fold).evImp fun D' σ H h => ?_
  obtain ⟨S, ρ, E0, h⟩ := h
  have h : KR ((evIt R0.call it ρ).bind fun items ρ => forGo (fun x ρ => (R.opt ρ (t.bind x ρ)).bind fun ρ1 _ => evSs R0.call wf sa ρ1) items ρ) _ _ := h
  refine ⟨S, ρ, E0, h.bind.imp (fun items ρ1 h J S1 H1 N1 ok => ?_) fun x ρ1 h => exS_ex E0 hm (fun j => memL) h⟩
  have N1' := N1.nxs (tk := (EV.S.for_ t it sa).tch) E0 hm fun j => memL
  have E1 := N1.ok
  let f : D → EV.Env → R Fl := fun x ρ => (R.opt ρ (t.bind x ρ)).bind fun ρ1 _ => evSs R0.call wf sa ρ1
  let Pv : Nat → St → Hp → Prop := fun i σ' H' => ∃ S2 ρ2, NxS R0.F S1 H1 σ sa.tch S2 H' σ' ρ2 ∧ tSat R0 fr (EV.S.for_ t it sa).tch (forGo f (items.drop i)) D' σ' H' S2 ρ2
  have kp : ∀ {S2 : Sh} {H2 : Hp} {σ2 : St} {ρ2 : EV.Env}, NxS R0.F S1 H1 σ sa.tch S2 H2 σ2 ρ2 → Keep (it.flags R0.F.own) σ H1 H2 := fun N j hj a o e1 e2 => (N.keep j (It.flags_own hj) (hfl j hj)).2 a o e1 e2
  have w : Walk J items.length (fun H2 => ∃ S2 σ2 ρ2, NxS R0.F S1 H1 σ sa.tch S2 H2 σ2 ρ2) (fun i H2 x H3 => Same H2 H3 ∧ ∀ S2 σ2 ρ2, NxS R0.F S1 H1 σ sa.tch S2 H2 σ2 ρ2 → ∃ d, items[i]? = some d ∧ Den R0.F.K R0.F.FA S2 H3 x d) :=
    ⟨fun i H2 hi ⟨S2, _, _, st⟩ => (ok S2 H2 st.ext (kp st)).1 i hi, fun H2 ⟨S2, _, _, st⟩ => (ok S2 H2 st.ext (kp st)).2.1,
      fun i H2 x H3 hi ⟨S2, _, _, st⟩ y => ⟨((ok S2 H2 st.ext (kp st)).2.2 i x H3 hi y).1, fun S2 _ _ st => ((ok S2 H2 st.ext (kp st)).2.2 i x H3 hi y).2⟩⟩
  refine for_it w Pv ⟨S1, ρ1, NxS.refl E1, E1, ?_⟩ (fun i σ2 H2 _ ⟨S2, ρ2, N, _⟩ => ⟨S2, σ2, ρ2, N⟩) ?_ ?_
  · exact h.imp (fun fl ρ2 h => kFl_back N1' h) fun x ρ2 h => exS_back N1' h
  · rintro i x σ2 H2 H3 hi' ⟨S2, ρ2, N2, E2, h2⟩ ⟨sm, hx⟩
    obtain ⟨d, hd, hden⟩ := hx S2 σ2 ρ2 N2
    have hdrop : items.drop i = d :: items.drop (i + 1) := by
      rw [List.drop_eq_getElem_cons hi']
      rw [List.getElem?_eq_getElem hi'] at hd
      rw [Option.some.inj hd]
    rw [hdrop] at h2
    have h2 : KR ((f d ρ2).bind fun o ρ1 => match o with
      | .nx => forGo f (items.drop (i + 1)) ρ1
      | .ct => forGo f (items.drop (i + 1)) ρ1
      | .bk => .ok .nx ρ1
      | .ret d => .ok (.ret d) ρ1) _ _ := h2
    have h2 := h2.bind.bind
    obtain ⟨ρb, hb, h2⟩ := KR.opt h2
    have E3 : EnvOk R0.F S2 H3 σ2 ρ2 := E2.step (Ext.of_same sm) sm
    refine ⟨S2, ρ2, d, ρb, E3, hden, hb, fun σ3 E4 c1 c2 c3 => ?_⟩
    have N3 : ∀ tk, NxS R0.F S2 H2 σ2 tk S2 H3 σ3 ρb := fun tk => NxS.same E4 (Ext.of_same sm) (fun j hj _ => c1 j fun z => ho j z hj) sm
    refine ⟨S2, ρb, E4, h2.imp (fun fl ρ3 h => ?_) fun x ρ3 h => exS_less (fun j => memR) (exS_back (N3 _) h)⟩
    have go : KR (forGo f (items.drop (i + 1)) ρ3) (kFl R0 fr (EV.S.for_ t it sa).tch D' S2 H2 σ2) (R0.exS (EV.S.for_ t it sa).tch S2 H2 σ2) → ∀ σ' S' H', NxS R0.F S2 H3 σ3 sa.tch S' H' σ' ρ3 → Pv (i + 1) σ' H' := fun h σ' S' H' N => by
      have N' := (N3 (EV.S.for_ t it sa).tch).trans (N.mono (tk' := (EV.S.for_ t it sa).tch) fun j => memR)
      exact ⟨S', ρ3, (N2.trans (N3 _)).trans N, N.ok, h.imp (fun fl ρ4 h => kFl_back N' h) fun x ρ4 h => exS_back N' h⟩
    cases fl with
    | nx => exact fun σ' S' H' N => go h σ' S' H' N
    | ct => exact fun σ' S' H' N => go h σ' S' H' N
    | bk => exact fun σ' S' H' N => (show ∀ σ' S' H', NxS R0.F S2 H2 σ2 (EV.S.for_ t it sa).tch S' H' σ' ρ3 → D'.nx σ' H' from h) σ' S' H' ((N3 _).trans (N.mono fun j => memR))
    | ret d => exact h
  · rintro σ2 H2 ⟨S2, ρ2, N2, h2⟩
    rw [List.drop_length] at h2
    exact tSat.next h2
end
end EV
end
section
set_option autoImplicit false
/-! Ev18: raise, try; every statement that fits its text is sound. -/
namespace EV
open PySem PySem.Spec PyProof.Rows L2

section
variable {P : Pg} {R0 : Rd0} {k : Nat} {X : Cx} {fr : Bool} {e : E} {v : Expr} {i j : Nat} {pos p1 p2 p3 p4 p5 p6 p7 px np pos' cp : Pos} {wf : Nat} {sa : Ss} {ps : List Stmt}

theorem s_raise (hX : XS P R0 k X) {c : Nat} {nm f : Str} (hc : P.cls[c]? = some (nm, some f)) (hp : plainA v = true) (hg : glB X.env.scope nm = true) (he : SE R0 X e v) (se : e.st R0.F.own = true) (hm : ∀ j ∈ e.muts, j ∈ R0.F.own) :
    PS X (.Raise (some (.Call (.Name nm px) [v] [] cp)) none pos) (tSt R0 fr (EV.S.raise1 c e).tch (evS R0.call wf (.raise1 c e))) := by
  obtain ⟨g1, g2, g3⟩ := glB_of hg
  obtain ⟨C, fI, fd, pn, jj, r1, r2, r3, r4, r5, r6, r7, r8, r9, r10⟩ := hX.raises c nm f hc
  refine (ps_raise hX.calm hX.takes (pmk_oex r3 r4 r5 r6 (hX.room.mono r2) r7 .nil passL g1 r8 (pa_cons (he.peSt se) pa_nil (starEach_cons hp)) g2 (starEach_cons hp) rfl)).evImp fun D' σ H h => ?_
  obtain ⟨S, ρ, h⟩ := h
  refine tGat.tG (S := S) (ρ := ρ) (tSat.step hm (fun j m => m) h fun d ρ1 w S1 H1 N1 gd h1 => ?_)
  obtain ⟨E1, h1⟩ := h1
  have h1 : R0.exS (EV.S.raise1 c e).tch S1 H1 σ ⟨c, some d⟩ ρ1 := h1
  refine ⟨by show 1 ≤ 1000; omega, fun a ha => ⟨a, w, rfl, upd_same, fun dx hdx hne => ⟨rfl, dx, [(f, w)], upd_same, ?_, ?_, ?_⟩⟩⟩
  · rw [upd_ne hne, upd_same]
  · rw [upd_ne hne] at hdx
    exact hdx
  · rw [upd_ne hne] at hdx
    have sm : Same H1 (upd (del (upd (upd (upd H1 a (exo a C none)) dx (exd dx [(f, w)])) a (exo a C (some dx))) a) dx (.xd [(f, w)])) := fun b o eb => by
      have n1 : b ≠ dx := ne_of_none eb hdx
      have n2 : b ≠ a := ne_of_none eb ha
      rw [upd_ne n1, del_ne n2, upd_ne n2, upd_ne n1, upd_ne n2]
      exact eb
    exact h1 _ _ σ S1 _ (NxS.same (E1.step (Ext.of_same sm) sm) (Ext.of_same sm) (fun _ _ _ => rfl) sm) ⟨C, nm, some f, r1, rfl, by rw [hX.cls]; exact hc, .inr ⟨f, d, dx, w, rfl, rfl, rfl, upd_same, Den.same sm gd⟩⟩

theorem s_try (hX : XS P R0 k X) {c : Nat} {nm f n y z : Str} {kk jz : Nat} (hc : P.cls[c]? = some (nm, some f)) (hg : glB X.env.scope nm = true) (hi : X.N[i]? = some n) (hln : X.env.scope.names.lookup n = some .local) (hj : X.N[j]? = some y) (hlj : locB X.env.scope y = true) (hv : visB X.env.scope n = true) (oi : i ∉ R0.F.own) (oj : j ∉ R0.F.own)
    (hb : ∀ (W : WX) (pn : List (Addr × Obj)) (xe : Value → Shared → Prop), Takes (X.tr pn xe) W → PassesOwn (model X.prog X.w) X.A X.env xe → SSs (R0.wish W) fr wf (X.tr pn xe) sa ps) :
    PS X (.Try ps [.ExceptHandler (some (.Name nm np)) (some n) [.Assign [.Name y px] (.Tuple [.Constant (.str z) jz p1, .Attribute (.Name n p2) f p3] kk p4) p5] pos'] [] [] pos)
      (tSt R0 fr (EV.S.try_ sa c (some i) (.setP j z.cps.toList)).tch (evS R0.call wf (.try_ sa c (some i) (.setP j z.cps.toList)))) := by
  obtain ⟨g1, g2, g3⟩ := glB_of hg
  obtain ⟨v1, v2, v3⟩ := visB_of hv
  obtain ⟨l1, l2⟩ := locB_of hX.sx hlj
  obtain ⟨C, fI, fd, pn, jj, r1, r2, r3, r4, r5, r6, r7, r8, r9, r10⟩ := hX.raises c nm f hc
  refine (ps_try_as (ts := fun a cls d => tAsg (tTup (tCons (tC (.str z)) (tCons (tXf a cls d C f (tVar i)) tNil))) (gName j)) hX.hst hX.hfr hX.nd hi hln ⟨g1, g2, .inl r8⟩ hX.takes hb (fun a oe cls d pn hz hf => ?_)).evImp fun D' σ H h => ?_
  · exact pss_one (ps_set (X := X.suite a ((a, oe) :: pn)) hX.nd hj l1 (pe_tup (pa_cons pe_str (pa_cons (pe_xf r9 r10 hz hf (pe_var (X := X.suite a ((a, oe) :: pn)) hi v1 v2 v3)) pa_nil))) rfl l2)
  · obtain ⟨S, ρ, E0, h⟩ := h
    refine ⟨S, ρ, E0, ?_⟩
    have h : KR (match evSs R0.call wf sa ρ with
      | .exc x ρ1 => if x.cls = c then ((Hd.setP j z.cps.toList).run x ρ1 (some i)).bind fun f ρ2 => .ok f (dropNm (some i) ρ2) else .exc x ρ1
      | r => r) (kFl R0 fr sa.tch D' S H σ) (R0.exS sa.tch S H σ) := h
    show KR (evSs R0.call wf sa ρ) (kFl (R0.wish _) fr sa.tch D' S H σ) ((R0.wish _).exS sa.tch S H σ)
    cases q : evSs R0.call wf sa ρ with
    | bad => rw [q] at h; exact h.elim
    | ok fl ρ1 =>
      rw [q] at h
      cases fl <;> exact h
    | exc x ρ1 =>
      rw [q] at h
      intro cv dd σ1 S1 H1 N ed
      have ed0 := ed
      obtain ⟨C1, nm1, fld1, q1, rfl, q3, q4⟩ := ed
      have hex := hX.exm x.cls c C1 C q1 r1
      refine ⟨decide (x.cls = c), hex, fun hd a ha => ?_, fun hd => ?_⟩
      · have hcl : x.cls = c := of_decide_eq_true hd
        have h : KR (if x.cls = c then ((Hd.setP j z.cps.toList).run x ρ1 (some i)).bind fun f ρ2 => .ok f (dropNm (some i) ρ2) else .exc x ρ1) _ _ := h
        rw [if_pos hcl] at h
        rw [hcl] at q1 q3
        have q1 : R0.CA c = some C1 := q1
        rw [r1] at q1
        cases q1
        have q3 : R0.cls[c]? = some (nm1, fld1) := q3
        rw [hX.cls, hc] at q3
        cases q3
        rcases q4 with ⟨z1, _, _⟩ | ⟨f', d, da, w, z1, z2, z3, z4, z5⟩
        · cases z1
        · cases z1
          subst z3
          have h : KR ((match x.arg, some i with | some d, some i' => if j < ρ1.length ∧ i' < ρ1.length ∧ j ≠ i' then .ok Fl.nx (ρ1.set j (some (.tup [.str z.cps.toList, d]))) else .bad | _, _ => .bad : R Fl).bind fun f ρ2 => .ok f (dropNm (some i) ρ2)) _ _ := h
          rw [z2] at h
          have h : KR ((if j < ρ1.length ∧ i < ρ1.length ∧ j ≠ i then .ok Fl.nx (ρ1.set j (some (.tup [.str z.cps.toList, d]))) else .bad : R Fl).bind fun f ρ2 => .ok f (dropNm (some i) ρ2)) _ _ := h
          split at h
          · rename_i hc3
            obtain ⟨c1, c2, c3⟩ := hc3
            have h : ∀ σ' S' H', NxS R0.F S H σ sa.tch S' H' σ' ((ρ1.set j (some (.tup [.str z.cps.toList, d]))).set i none) → D'.nx σ' H' := h
            have E1 := N.ok
            have hil : i < σ1.length := by rw [E1.len]; exact c2
            refine ⟨.ref a, List.getElem?_set_self hil, rfl, rfl, da, [(f, w)], w, rfl, z4, by simp, ?_⟩
            refine ⟨by show 2 ≤ sizeLine; decide, fun p hp => ?_⟩
            have sm := same_upd (o := .tup [.str z, w]) hp
            have E2 : EnvOk R0.F S1 (upd H1 p (.tup [.str z, w])) σ1 ρ1 := E1.step (Ext.of_same sm) sm
            have dn : Den R0.F.K R0.F.FA S1 (upd H1 p (.tup [.str z, w])) (.ref p) (.tup [.str z.cps.toList, d]) := .tup (SqT.of upd_same) (.cons (.str z.cps.toList) (.cons (z5.same sm) .nil))
            have E3 := E2.setS oj c1 dn
            have E4 := E3.wipe (vs := [i]) fun m hm => by rw [List.mem_singleton.mp hm]; exact oi
            show D'.nx (((σ1.set i (some (.ref a))).set j (some (.ref p))).set i none) _
            have es : ((σ1.set i (some (.ref a))).set j (some (.ref p))).set i none = L2.wipe (σ1.set j (some (.ref p))) [i] := by
              show _ = (σ1.set j (some (.ref p))).set i none
              rw [List.set_comm _ _ (Ne.symm c3), List.set_set]
            rw [es]
            refine h _ S1 _ (N.trans (NxS.same E4 (Ext.of_same sm) (fun m hm _ => ?_) sm))
            rw [wipe_out (by intro z; rw [List.mem_singleton.mp z] at hm; exact oi hm), List.getElem?_set_ne (by intro z; subst z; exact oj hm)]
          · exact h.elim
      · have hcl : ¬ x.cls = c := of_decide_eq_false hd
        have h : KR (if x.cls = c then ((Hd.setP j z.cps.toList).run x ρ1 (some i)).bind fun f ρ2 => .ok f (dropNm (some i) ρ2) else .exc x ρ1) _ _ := h
        rw [if_neg hcl] at h
        have h : R0.exS sa.tch S H σ x ρ1 := h
        exact h _ dd σ1 S1 H1 N ed0

theorem nall_mem {own l : List Nat} (h : (l.all fun i => !own.contains i) = true) : ∀ i ∈ l, i ∉ own := fun i hi => ncont_mem (all_mem h hi)
theorem nio {io : Bool} {F : Fr0} {q : Bool} (hio : F.io ≠ none → io = true) (h : (!io || q) = true) : F.io = none ∨ q = true := by
  cases z : F.io with
  | none => exact .inl rfl
  | some a =>
    rw [hio (by rw [z]; exact fun w => nomatch w)] at h
    exact .inr (by simpa using h)
theorem of_cls {c : Nat} {b : Str → Str → Bool} (h : (match P.cls[c]? with | some (nm, some f') => b nm f' | _ => false) = true) : ∃ nm f', P.cls[c]? = some (nm, some f') ∧ b nm f' = true := by
  split at h
  · exact ⟨_, _, by assumption, h⟩
  · cases h
theorem plain_tup {N : List Str} {sc : Scope} {ts : Tgs} {t : Expr} (h : chkT N sc (.tp ts) t = true) : plainA t = true := by
  cases t <;> first | rfl | simp [chkT] at h
mutual
theorem soundS {P : Pg} {fr io : Bool} {wf : Nat} : ∀ (s : EV.S) {R0 : Rd0} {k : Nat} {X : Cx} {st : Stmt}, XS P R0 k X → (R0.F.io ≠ none → io = true) → chkS P R0.F.own X.N io fr s X.env.scope st = true → PS X st (tSt R0 fr s.tch (evS R0.call wf s))
  | s, R0, k, X, st, hX, hio, h => by
    have hX' := hX.toXOk
    have hsx := hX.sx
    unfold chkS at h
    split at h
    · rename_i i e x px v _
      simp only [Bool.and_eq_true, decide_eq_true_eq, Bool.or_eq_true] at h
      obtain ⟨⟨⟨⟨⟨⟨h1, h2⟩, h3⟩, h4⟩, h5⟩, h6⟩, h7⟩ := h
      rcases h7 with h7 | ⟨h7, h8⟩
      · exact s_name hX h7 h1 h2 (ncont_mem h3) (soundE e hX' hsx h4) h5 (mok_mem h6)
      · exact s_nameC hX h1 (ncont_mem h3) h7 h8 h4 (mok_mem h6)
    · rename_i ts e t v _
      simp only [Bool.and_eq_true] at h
      obtain ⟨⟨⟨⟨⟨⟨h1, h2⟩, h3⟩, h4⟩, h5⟩, h6⟩, h7⟩ := h
      exact s_asg hX h6 h7 h1 (plain_tup h1) (nall_mem h2) (soundE e hX' hsx h3) h4 (mok_mem h5)
    · rename_i i e x px v _
      simp only [Bool.and_eq_true, decide_eq_true_eq] at h
      obtain ⟨⟨⟨⟨⟨⟨⟨⟨h1, h2⟩, h3⟩, h4⟩, h5⟩, h6⟩, h7⟩, h8⟩, h9⟩ := h
      rw [Bool.or_eq_true] at h9
      have h4 := (nio hio h4).imp (fun z => z) fun z => of_decide_eq_true z
      rcases h9 with h9 | h9
      · exact s_own hX h9 h1 h2 (cont_mem h3) h4 (soundE e hX' hsx h5) h6 (mok_mem h8)
      · rw [Bool.and_eq_true] at h9
        exact s_ownC hX h1 (cont_mem h3) h4 h9.1 h9.2 h5 (mok_mem h8)
    · rename_i oi oj i j a b x px y py kk pt u v k2 pt2 _
      simp only [Bool.and_eq_true, decide_eq_true_eq, beq_iff_eq] at h
      obtain ⟨⟨⟨⟨⟨⟨⟨⟨⟨⟨⟨⟨h1, h2⟩, h3⟩, h4⟩, h5⟩, h6⟩, h7⟩, h8⟩, h9⟩, h10⟩, h11⟩, h12⟩, h13⟩ := h
      refine s_asg2 hX h1 h2 h3 (soundE a hX' hsx h4) (soundE b hX' hsx h5) h6 h7 h13 ((nio hio h10).imp (fun z => z) fun z => ?_) h8 h9 (mok_mem h11) (mok_mem h12)
      rw [Bool.and_eq_true] at z
      exact ⟨of_decide_eq_true z.1, of_decide_eq_true z.2⟩
    · rename_i i e x px v _
      simp only [Bool.and_eq_true, decide_eq_true_eq] at h
      obtain ⟨⟨⟨⟨⟨h1, h2⟩, h3⟩, h4⟩, h5⟩, h6⟩ := h
      exact s_aug hX h1 h2 (ncont_mem h3) (soundE e hX' hsx h4) h5 (mok_mem h6)
    · rename_i i ix e x px y py v _
      simp only [Bool.and_eq_true, decide_eq_true_eq] at h
      obtain ⟨⟨⟨⟨⟨⟨⟨⟨⟨⟨h1, h2⟩, h3⟩, h4⟩, h5⟩, h6⟩, h7⟩, h8⟩, h9⟩, h10⟩, h11⟩ := h
      exact s_store hX h1 h2 (cont_mem h3) h4 (soundE ix hX' hsx h5) h6 (mok_mem h7) (soundE e hX' hsx h8) h9 (mok_mem h10) h11
    · rename_i i e x px n ap v cp _
      simp only [Bool.and_eq_true, decide_eq_true_eq] at h
      obtain ⟨⟨⟨⟨⟨⟨⟨⟨h1, h2⟩, h3⟩, h4⟩, h5⟩, h6⟩, h7⟩, h8⟩, h9⟩ := h
      have h1 := eq_of_beq h1
      subst h1
      exact s_app hX h2 h3 h4 h5 (cont_mem h6) (soundE e hX' hsx h7) h8 (mok_mem h9)
    · rename_i e v _
      simp only [Bool.and_eq_true] at h
      exact s_expr hX (soundE e hX' hsx h.1.1) (mok_mem h.1.2) h.2
    · rename_i e v _
      simp only [Bool.and_eq_true] at h
      exact s_ret hX (soundE e hX' hsx h.1.1) (mok_mem h.1.2) hio h.2
    · exact s_retN
    · rename_i c a b x p q _
      simp only [Bool.and_eq_true] at h
      obtain ⟨⟨⟨⟨h1, h2⟩, h3⟩, h4⟩, h5⟩ := h
      exact s_if hX (soundE c hX' hsx h1) h2 (mok_mem h3) (soundSs a hX hio h4) (soundSs b hX hio h5)
    · rename_i t it b tg iter p _
      simp only [Bool.and_eq_true] at h
      obtain ⟨⟨⟨⟨⟨h1, h2⟩, h3⟩, h4⟩, h5⟩, h6⟩ := h
      exact s_for hX h1 (nall_mem h2) (soundI it hX' hsx h3) (mok_mem h4) (fun j hj => ncont_mem (all_mem h5 hj)) (soundSs b hX hio h6)
    · rename_i c b x p _
      simp only [Bool.and_eq_true] at h
      obtain ⟨⟨⟨h1, h2⟩, h3⟩, h4⟩ := h
      exact s_while hX (soundE c hX' hsx h1) h2 (mok_mem h3) (soundSs b hX hio h4)
    · exact s_never
    · rename_i c e x px v cp _
      simp only [Bool.and_eq_true] at h
      obtain ⟨⟨⟨⟨⟨h1, h2⟩, h3⟩, h4⟩, h5⟩, h6⟩ := h
      obtain ⟨nm, f', hc, hb⟩ := of_cls h6
      have hb := eq_of_beq hb
      subst hb
      exact s_raise hX hc h1 h2 (soundE e hX' hsx h3) h4 (mok_mem h5)
    · rename_i b c i j s p x np n y px z jz p1 n' p2 f p3 kk p4 p5 pos' _
      simp only [Bool.and_eq_true, decide_eq_true_eq, beq_iff_eq] at h
      obtain ⟨⟨⟨⟨⟨⟨⟨⟨⟨⟨⟨h1, h2⟩, h3⟩, h4⟩, h5⟩, h6⟩, h7⟩, h8⟩, h9⟩, h10⟩, h11⟩, h12⟩ := h
      obtain ⟨nm, f', hc, hb⟩ := of_cls h12
      rw [Bool.and_eq_true] at hb
      have hb1 := eq_of_beq hb.1
      have hb2 := eq_of_beq hb.2
      subst hb1 hb2 h7 h8
      exact s_try hX hc h2 h3 h4 h5 h6 h9 (ncont_mem h10) (ncont_mem h11) fun W pn xe t hp => soundSs b (hX.tr t hp) hio h1
    · cases h
termination_by s => sizeOf s
theorem soundSs {P : Pg} {fr io : Bool} {wf : Nat} : ∀ (ss : Ss) {R0 : Rd0} {k : Nat} {X : Cx} {ps : List Stmt}, XS P R0 k X → (R0.F.io ≠ none → io = true) → chkSs P R0.F.own X.N io fr ss X.env.scope ps = true → SSs R0 fr wf X ss ps
  | ss, R0, k, X, ps, hX, hio, h => by
    unfold chkSs at h
    split at h
    · exact ss_nil
    · rename_i s ss z jz p1 p2 st r
      rw [Bool.and_eq_true] at h
      exact ss_doc (ss_cons (soundS s hX hio h.1) (soundSs ss hX hio h.2))
    · rename_i s ss st r _
      rw [Bool.and_eq_true] at h
      exact ss_cons (soundS s hX hio h.1) (soundSs ss hX hio h.2)
    · cases h
termination_by ss => sizeOf ss
end
end
end EV
end
section
set_option autoImplicit false
/-! Ev19: the defs of a program. -/
namespace EV
open PySem PySem.Spec PyProof.Rows L2

def ownOk (di : DefI) : Bool := (di.own.all fun i => decide (di.np ≤ i) || (di.io && i == 0)) && (!di.io || (di.own.contains 0 && decide (0 < di.np))) && decide (di.np ≤ di.N.length)
/-- a program as it stands in the module -/
structure Lk (P : Pg) (prog : Program) (w : World) (K : PySem.W.Frag) (mg : Str → Option Value) (base : Heap) (AF CA : Nat → Option Addr) : Prop where
  nms : ∀ x ∈ builtinNames, mg x = none
  defs : ∀ f di, P.defs[f]? = some di → ∃ a fd qual st, AF f = some a ∧ mg di.name = some (.ref a) ∧ PySem.W.keepIn K (.ref a) = true ∧ Fun K di.name qual st a fd ∧ FnScope di.N (di.N.take di.np) (defScope st) ∧ Binds K fd (di.N.take di.np) [] ∧
    chkSs P di.own di.N di.io di.fr di.body (defScope st) (defBody st) = true ∧ ownOk di = true
  consts : ∀ FA x d, constB P x d = true → ∃ u v, mg x = some u ∧ RelV v u ∧ ∀ S H, Den K FA S H v d
  raises : ∀ c nm f, P.cls[c]? = some (nm, some f) → ∃ C fI fd ps, CA c = some C ∧ OexC K C ∧ PySem.W.findIn K (.ref C) "__init__" = some (some (.ref fI)) ∧ PySem.W.typeIn K (.ref fI) = some (.type "function") ∧
    FnOk prog w K mg base (L2.CX prog w) 1 fI fd ps (initSp C f) ∧ Binds K fd ps [] ∧ mg nm = some (.ref C) ∧ XfC K C ∧ PySem.W.findIn K (.ref C) f = some none
  exm : ∀ c c' C C', CA c = some C → CA c' = some C' → PySem.W.exmOne K (.ref C) (.ref C') = some (decide (c = c'))
/-- the addresses of the defs that are data -/
def plainF (P : Pg) (AF : Nat → Option Addr) : Nat → Option Addr := fun f => match P.defs[f]? with
  | some di => if !di.io && !di.fr then AF f else none
  | none => none

section
variable {P : Pg} {prog : Program} {w : World} {K : PySem.W.Frag} {mg : Str → Option Value} {base : Heap} {AF CA : Nat → Option Addr} {wf : Nat}
theorem callD_len {n f : Nat} {di : DefI} {ds : List D} (hd : P.defs[f]? = some di) (h : callD P.defs wf n f ds ≠ .bad) : ds.length = di.np := by
  cases n with
  | zero => exact absurd rfl h
  | succ n =>
    have e : callD P.defs wf (n + 1) f ds = runDef (callD P.defs wf n) wf di ds := by
      show (match P.defs[f]? with | some di => runDef (callD P.defs wf n) wf di ds | none => .bad) = _
      rw [hd]
    rw [e] at h
    unfold runDef at h
    split at h
    · assumption
    · exact absurd rfl h
theorem den_fa {K : PySem.W.Frag} {FA : Nat → Option Addr} {S : Sh} {H : Hp} {v : V} {d : D} (h : Den K FA S H v d) : Den K FA S H v d := h

theorem start_get {N : List Str} {vs : List V} {i : Nat} {v : V} (h : vs[i]? = some v) : (start N vs)[i]? = some (some v) := by
  have hl : i < vs.length := (List.getElem?_eq_some_iff.mp h).1
  show (vs.map some ++ List.replicate (N.length - vs.length) none)[i]? = _
  rw [List.getElem?_append_left (by rw [List.length_map]; exact hl), List.getElem?_map, h]
  rfl
theorem startE_get {N : List Str} {ds : List D} {i : Nat} {d : D} (h : (startE N ds)[i]? = some (some d)) : ds[i]? = some d := by
  have h : (ds.map some ++ List.replicate (N.length - ds.length) none)[i]? = some (some d) := h
  by_cases hl : i < ds.length
  · rw [List.getElem?_append_left (by rw [List.length_map]; exact hl), List.getElem?_map] at h
    cases e : ds[i]? with
    | none => rw [e] at h; cases h
    | some x => rw [e] at h; cases h; rfl
  · rw [List.getElem?_append_right (by rw [List.length_map]; omega)] at h
    have := List.mem_of_getElem? h
    rw [List.mem_replicate] at this
    cases this.2
theorem startE_none {N : List Str} {ds : List D} {vs : List V} {i : Nat} (hl : vs.length = ds.length) (h : (startE N ds)[i]? = some none) : (start N vs)[i]? = some none := by
  have h : (ds.map some ++ List.replicate (N.length - ds.length) none)[i]? = some none := h
  show (vs.map some ++ List.replicate (N.length - vs.length) none)[i]? = _
  by_cases hi : i < ds.length
  · rw [List.getElem?_append_left (by rw [List.length_map]; exact hi), List.getElem?_map] at h
    cases e : ds[i]? with
    | none => rw [e] at h; cases h
    | some x => rw [e] at h; cases h
  · rw [List.getElem?_append_right (by rw [List.length_map]; omega), List.length_map] at h ⊢
    rw [hl]
    have hlt := (List.getElem?_eq_some_iff.mp h).1
    rw [List.length_replicate] at hlt
    rw [List.getElem?_replicate, if_pos hlt]

/-- the frame at the entry -/
theorem entry_ok {FA : Nat → Option Addr} {di : DefI} {vs : List V} {ds : List D} {io : Option Addr} {S : Sh} {H : Hp} (hok : ownOk di = true) (hlv : Live S H) (hl : vs.length = di.np)
    (h : (di.io = false ∧ io = none ∧ DenAll K FA S H vs ds) ∨ (di.io = true ∧ ∃ a ws d es, io = some a ∧ vs = .ref a :: ws ∧ ds = d :: es ∧ Own K FA S H (.ref a) d ∧ DenAll K FA S H ws es)) :
    EnvOk ⟨K, FA, S, H, io, di.own⟩ S H (start di.N vs) (startE di.N ds) := by
  unfold ownOk at hok
  simp only [Bool.and_eq_true, decide_eq_true_eq, Bool.or_eq_true, Bool.not_eq_true'] at hok
  obtain ⟨⟨o1, o2⟩, o3⟩ := hok
  have hlen : vs.length = ds.length := by
    rcases h with ⟨_, _, h⟩ | ⟨_, a, ws, d, es, _, rfl, rfl, _, h⟩
    · exact h.length
    · rw [List.length_cons, List.length_cons, h.length]
  have key : ∀ i d, i ∈ di.own → (startE di.N ds)[i]? = some (some d) → i = 0 ∧ di.io = true := fun i d hi e => by
    have e := startE_get e
    have hlt := (List.getElem?_eq_some_iff.mp e).1
    have := all_mem o1 hi
    simp only [Bool.or_eq_true, Bool.and_eq_true, decide_eq_true_eq, beq_iff_eq] at this
    rcases this with z | z
    · omega
    · exact ⟨z.2, z.1⟩
  refine ⟨?_, fun i d hi e => ?_, fun i d hi e => ?_, fun i j a d e hi hj h1 h2 _ _ => ?_, fun b o e _ => e, hlv, fun i a d hi h1 h2 => ?_, fun a ha => ?_, fun i hi e => startE_none hlen e, Ext.refl _ _⟩
  · show (vs.map some ++ List.replicate (di.N.length - vs.length) none).length = (ds.map some ++ List.replicate (di.N.length - ds.length) none).length
    simp only [List.length_append, List.length_map, List.length_replicate]
    rw [hlen]
  · have e := startE_get e
    rcases h with ⟨_, _, h⟩ | ⟨hio, a, ws, d0, es, _, rfl, rfl, _, h⟩
    · obtain ⟨v, g1, g2⟩ := h.get e
      exact ⟨v, start_get g1, g2⟩
    · cases i with
      | zero =>
        have : di.own.contains 0 = true := (o2.resolve_left fun z => by rw [hio] at z; cases z).1
        exact absurd (cont_mem this) hi
      | succ i =>
        have e : es[i]? = some d := by simpa using e
        obtain ⟨v, g1, g2⟩ := h.get e
        exact ⟨v, start_get (by simpa using g1), g2⟩
  · obtain ⟨rfl, hio⟩ := key i d hi e
    rcases h with ⟨hio', _, _⟩ | ⟨_, a, ws, d0, es, rfl, rfl, rfl, ow, h⟩
    · rw [hio] at hio'; cases hio'
    · have e := startE_get e
      simp at e
      subst e
      exact ⟨.ref a, start_get rfl, ow⟩
  · rw [(key i d hi h1).1, (key j e hj h2).1]
  · obtain ⟨rfl, hio⟩ := key i d hi h1
    rcases h with ⟨hio', _, _⟩ | ⟨_, a', ws, d0, es, rfl, rfl, rfl, ow, h⟩
    · rw [hio] at hio'; cases hio'
    · rw [start_get (v := .ref a') rfl] at h2
      cases h2
      exact .inr rfl
  · rcases h with ⟨_, rfl, _⟩ | ⟨hio, a', ws, d0, es, rfl, rfl, rfl, ow, h⟩
    · cases ha
    · cases ha
      refine ⟨cont_mem (o2.resolve_left fun z => by rw [hio] at z; cases z).1, start_get rfl, d0, ?_⟩
      show ((d0 :: es).map some ++ List.replicate (di.N.length - (d0 :: es).length) none)[0]? = _
      rfl

theorem defs_ok (L : Lk P prog w K mg base AF CA) : ∀ n f di, P.defs[f]? = some di → ∀ a fd qual st, AF f = some a → mg di.name = some (.ref a) → PySem.W.keepIn K (.ref a) = true → Fun K di.name qual st a fd → FnScope di.N (di.N.take di.np) (defScope st) → Binds K fd (di.N.take di.np) [] →
    chkSs P di.own di.N di.io di.fr di.body (defScope st) (defBody st) = true → ownOk di = true →
    FnOk prog w K mg base (L2.CX prog w) (n + 2) a fd (di.N.take di.np) (spD K (plainF P AF) CA P.cls (callD P.defs wf n f) di) := by
  intro n
  induction n with
  | zero =>
    intro f di hd a fd qual st g1 g2 g3 g4 g5 g6 g7 g8
    have no : ∀ vs H Q E, ¬ spD K (plainF P AF) CA P.cls (callD P.defs wf 0 f) di vs H Q E := fun vs H Q E h => by
      obtain ⟨_, _, _, _, _, _, h⟩ := h
      exact h
    exact ⟨fun vs H Q E h => (no vs H Q E h).elim, fun A outer s H args us vs Q E _ _ _ _ h => (no vs H Q E h).elim⟩
  | succ n ih =>
    intro f di hd a fd qual st g1 g2 g3 g4 g5 g6 g7 g8
    refine g4.okX g5 (fun vs H Q E h => ?_) (fun cdv A outer s H vs Q E hr h => ?_)
    · obtain ⟨_, _, _, _, h, _⟩ := h
      rw [h, List.length_take]
      unfold ownOk at g8
      simp only [Bool.and_eq_true, decide_eq_true_eq] at g8
      omega
    · obtain ⟨S, ds, io, hlv, hl, hargs, hend⟩ := h
      let R0 : Rd0 := { F := ⟨K, plainF P AF, S, H, io, di.own⟩, CA := CA, cls := P.cls, call := callD P.defs wf n, W := fun c dd _ H' => E c dd H' }
      let X := cxOf (L2.CX prog w) prog w K mg base di.N qual (defScope st) a cdv A outer s H E
      have E0 : EnvOk R0.F S H (start di.N vs) (startE di.N ds) := entry_ok g8 hlv hl hargs
      have hXO : XOk P R0 (n + 2) X := {
        calm := rfl
        room := hr
        nd := g5.nd
        hK := rfl
        takes := takes_of rfl rfl rfl rfl
        nms := L.nms
        cls := rfl
        defs := fun f' di' hd' => by
          obtain ⟨a', fd', qual', st', k1, k2, k3, k4, k5, k6, k7, k8⟩ := L.defs f' di' hd'
          refine ⟨a', fd', fun i1 i2 => ?_, k2, k3, k6, ih f' di' hd' a' fd' qual' st' k1 k2 k3 k4 k5 k6 k7 k8⟩
          show plainF P AF f' = some a'
          unfold plainF
          rw [hd']
          show (if (!di'.io && !di'.fr) = true then AF f' else none) = some a'
          rw [i1, i2]
          exact k1
        fns := fun f' a' h => by
          have h : plainF P AF f' = some a' := h
          unfold plainF at h
          split at h
          · rename_i di' hd'
            split at h
            · rename_i hc
              simp only [Bool.and_eq_true, Bool.not_eq_true'] at hc
              exact ⟨di', hd', hc.1, hc.2⟩
            · cases h
          · cases h
        lens := fun f' di' ds' hd' h => callD_len hd' h
        consts := fun x d h => L.consts _ x d h }
      have hXS : XS P R0 (n + 2) X := { toXOk := hXO
                                        hp := passes_of rfl
                                        hst := rfl
                                        hfr := rfl
                                        fn := fun _ => rfl
                                        kind := g5.kind
                                        raises := fun c nm f' hc => by
                                          obtain ⟨C, fI, fd', ps, z1, z2, z3, z4, z5, z6, z7, z8, z9⟩ := L.raises c nm f' hc
                                          exact ⟨C, fI, fd', ps, 1, z1, by omega, z2, z3, z4, z5, z6, z7, z8, z9⟩
                                        exm := L.exm }
      have hio : R0.F.io ≠ none → di.io = true := fun z => by
        rcases hargs with ⟨_, h, _⟩ | ⟨h, _⟩
        · exact absurd h z
        · exact h
      refine ⟨_, soundSs (fr := di.fr) (io := di.io) (wf := wf) di.body hXS hio g7, S, startE di.N ds, E0, ?_⟩
      have e : callD P.defs wf (n + 1) f ds = runDef (callD P.defs wf n) wf di ds := by
        show (match P.defs[f]? with | some di => runDef (callD P.defs wf n) wf di ds | none => .bad) = _
        rw [hd]
      rw [e] at hend
      have hlen : ds.length = di.np := by
        rcases hargs with ⟨_, _, h⟩ | ⟨_, a, ws, d, es, _, rfl, rfl, _, h⟩
        · rw [← h.length]; exact hl
        · rw [List.length_cons, h.length.symm]; exact hl
      unfold runDef at hend
      rw [if_pos hlen] at hend
      have outOf : ∀ {S' : Sh} {H' : Hp} {ρ' : EV.Env}, (∀ a, R0.F.io = some a → ∃ out, ρ'.getD 0 none = some out ∧ Own R0.F.K R0.F.FA S' H' (.ref a) out) → ∀ a, io = some a → Own K (plainF P AF) S' H' (.ref a) ((ρ'.getD 0 none).getD .non) := fun h a ha => by
        obtain ⟨out, q1, q2⟩ := h a ha
        rw [q1]
        exact q2
      show KR (evSs R0.call wf di.body (startE di.N ds)) _ _
      have hend : match (match evSs R0.call wf di.body (startE di.N ds) with
        | .ok (.ret d) ρ => CR.ok d ((ρ.getD 0 none).getD .non)
        | .ok .nx ρ => .ok .non ((ρ.getD 0 none).getD .non)
        | .exc x ρ => .exc x ((ρ.getD 0 none).getD .non)
        | _ => .bad) with
        | .ok d out => ∀ v S' H', Ext S H S' H' → (∀ b o, H b = some o → io ≠ some b → H' b = some o) → (∀ a, io = some a → Own K (plainF P AF) S' H' (.ref a) out) → (if di.fr = true then (Own K (plainF P AF) S' H' v d ∧ ∀ a, v = .ref a → H a = none) ∨ ((∀ ds, d ≠ .lst ds) ∧ Den K (plainF P AF) S' H' v d) else Den K (plainF P AF) S' H' v d) → Q v H'
        | .exc x out => ∀ c dd S' H', Ext S H S' H' → (∀ b o, H b = some o → io ≠ some b → H' b = some o) → (∀ a, io = some a → Own K (plainF P AF) S' H' (.ref a) out) → ExcDen K (plainF P AF) CA P.cls S' H' x c dd → E c dd H'
        | .bad => False := hend
      cases q : evSs R0.call wf di.body (startE di.N ds) with
      | bad => rw [q] at hend; exact hend
      | exc x ρ' =>
        rw [q] at hend
        intro c dd σ' S' H' N ed
        exact hend c dd S' H' N.ext (fun b o e n => N.ok.frame b o e n) (outOf (io_out N.ok)) ed
      | ok fl ρ' =>
        rw [q] at hend
        cases fl with
        | nx =>
          intro σ' S' H' N
          refine hend .non S' H' N.ext (fun b o e n => N.ok.frame b o e n) (outOf (io_out N.ok)) ?_
          split
          · exact .inr ⟨(fun _ e => nomatch e), .non⟩
          · exact .non
        | ret d =>
          intro v S' H' r
          exact hend v S' H' r.1 r.2.1 (outOf r.2.2.1) r.2.2.2
        | bk => exact hend.elim
        | ct => exact hend.elim
end
end EV
end
section
set_option autoImplicit false
/-! Ev20: small ties. -/
namespace EV
open PySem PySem.Spec PyProof.Rows L2

def AllFrom (Q : Nat → DefI → Prop) : Nat → List DefI → Prop
  | _, [] => True
  | k, d :: ds => Q k d ∧ AllFrom Q (k + 1) ds
theorem defs_from {Q : Nat → DefI → Prop} : ∀ {l : List DefI} {k : Nat}, AllFrom Q k l → ∀ f di, l[f]? = some di → Q (k + f) di
  | [], _, _, f, di, h => by simp at h
  | d :: ds, k, ⟨h1, _⟩, 0, di, h => by
    simp at h
    subst h
    exact h1
  | d :: ds, k, ⟨_, h2⟩, f + 1, di, h => by
    have := defs_from h2 f di (by simpa using h)
    rw [show k + (f + 1) = k + 1 + f by omega]
    exact this
theorem defs_by {Q : Nat → DefI → Prop} {l : List DefI} (h : AllFrom Q 0 l) : ∀ f di, l[f]? = some di → Q f di := fun f di e => by
  have := defs_from h f di e
  rw [Nat.zero_add] at this
  exact this
def AllC (Q : Str → D → Prop) : List (Str × D) → Prop
  | [] => True
  | p :: ps => Q p.1 p.2 ∧ AllC Q ps
theorem consts_by {Q : Str → D → Prop} : ∀ {l : List (Str × D)}, AllC Q l → ∀ p ∈ l, Q p.1 p.2
  | [], _, p, h => by cases h
  | q :: qs, ⟨h1, h2⟩, p, h => by
    rcases List.mem_cons.mp h with rfl | h
    · exact h1
    · exact consts_by h2 p h
/-- an error of a class is what an except of that class names -/
theorem exm_own {K : PySem.W.Frag} {S : Addr} (h1 : PySem.W.subIn K (.ref S) (.type "BaseException") = some true) (h2 : PySem.W.isClsIn K S = true) (h3 : PySem.W.typeIn K (.ref S) = some (.type "type")) (h4 : PySem.W.subIn K (.ref S) (.ref S) = some true) :
    PySem.W.exmOne K (.ref S) (.ref S) = some true := by
  have e1 : (PySem.W.subIn K (.ref S) (.type "BaseException") == some true) = true := by rw [h1] <;> rfl
  have e2 : ((PySem.W.clsIn K S).isSome && PySem.W.typeIn K (.ref S) == some (.type "type")) = true := by
    have h2' : (PySem.W.clsIn K S).isSome = true := h2
    rw [h2', h3] <;> rfl
  unfold PySem.W.exmOne
  rw [if_pos e1]
  show (if ((PySem.W.clsIn K S).isSome && PySem.W.typeIn K (.ref S) == some (.type "type")) = true then PySem.W.subIn K (.ref S) (.ref S) else none) = some true
  rw [if_pos e2]
  exact h4
theorem den_ints {K : PySem.W.Frag} {FA : Nat → Option Addr} {S : Sh} {H : Hp} : ∀ ns : List Int, DenAll K FA S H (ns.map V.int) (ns.map D.int)
  | [] => .nil
  | n :: ns => .cons (.int n) (den_ints ns)
theorem law_spD {K : PySem.W.Frag} {FA CA : Nat → Option Addr} {cls : List (Str × Option Str)} {H : Hp} {a : Addr} {ns : List Int} {call : List D → CR} {di : DefI} {Q : VK} {E : XK} (hS : SqL K H a (ns.map V.int)) (hl : ∃ out, call [.lst (ns.map D.int)] = .ok (.bl true) out) (h1 : di.np = 1) (h2 : di.io = false) (h3 : di.fr = false) (hQ : ∀ H', Q (.bl true) H') :
    spD K FA CA cls call di [.ref a] H Q E := by
  obtain ⟨out, hl⟩ := hl
  refine ⟨fun b => b = a ∧ ∃ o, H b = some o, [.lst (ns.map D.int)], none, fun b hb => hb.2, by rw [h1]; rfl, .inl ⟨h2, rfl, .cons (.lst ?_ hS (den_ints ns)) .nil⟩, ?_⟩
  · rcases hS with (hS | ⟨o, hS⟩) | hS
    · exact .inl ⟨rfl, _, hS⟩
    · exact .inl ⟨rfl, _, hS⟩
    · exact .inr hS
  · rw [hl]
    intro v S' H' _ _ _ g
    rw [h3, if_neg Bool.false_ne_true] at g
    rw [den_bl g]
    exact hQ H'
/-- what the law promises of at most 63 whole numbers -/
def spLaw (K : PySem.W.Frag) : Sp := fun vs H Q _ => ∃ (a : Addr) (ns : List Int), vs = [.ref a] ∧ ns.length ≤ 63 ∧ SqL K H a (ns.map V.int) ∧ ∀ H', Q (.bl true) H'
theorem cx_none {P : Program} {w : World} {H : Hp} {s : Shared} {e : Value} {s' : Shared} (h : L2.CX P w [] H s (fun _ _ _ => False) e s') : False := by
  obtain ⟨_, _, _, _, _, _, _, _, _, _, _, _, z⟩ := h
  exact z
theorem small_max {n : Nat} (h : n ≤ 63) : n ≤ 63 := h
end EV
end
section
set_option autoImplicit false
/-! P0: the evaluator, step by step (for simp only). -/
namespace EV
open PySem PySem.Spec PyProof.Rows L2
section
variable {c : Nat → List D → CR} {wf : Nat} {ρ : EV.Env} {d : D} {i f : Nat} {x : Str} {u : U} {b : B} {a e l h g : E} {es : Es} {o p : Cm} {s : S} {ss sa sb : Ss} {t : Tg} {it : It}
theorem v_lit : evE c (.lit d) ρ = .ok d ρ := rfl
theorem v_var : evE c (.var i) ρ = R.opt ρ (ρ.getD i none) := rfl
theorem v_glob : evE c (.glob x d) ρ = .ok d ρ := rfl
theorem v_fn : evE c (.fn f) ρ = .ok (.fn f) ρ := rfl
theorem v_un : evE c (.un u a) ρ = (evE c a ρ).bind fun d ρ => R.opt ρ (u.ev d) := rfl
theorem v_bin : evE c (.bin b a e) ρ = (evE c a ρ).bind fun d ρ => if b.pre d then (evE c e ρ).bind fun e ρ => R.opt ρ (b.ev d e) else .bad := rfl
theorem v_slL : evE c (.slL a l) ρ = (evE c a ρ).bind fun d ρ => (evE c l ρ).bind fun e ρ => R.opt ρ (e.toInt.bind fun i => d.slice (some i) none) := rfl
theorem v_slH : evE c (.slH a l) ρ = (evE c a ρ).bind fun d ρ => (evE c l ρ).bind fun e ρ => R.opt ρ (e.toInt.bind fun i => d.slice none (some i)) := rfl
theorem v_slLH : evE c (.slLH a l h) ρ = (evE c a ρ).bind fun d ρ => (evE c l ρ).bind fun e ρ => match e.toInt with
      | some i => (evE c h ρ).bind fun e' ρ => R.opt ρ (e'.toInt.bind fun j => d.slice (some i) (some j))
      | none => .bad := rfl
theorem v_tup : evE c (.tup es) ρ = (evEs c es ρ).bind fun ds ρ => if ds.length ≤ 1000 then .ok (.tup ds) ρ else .bad := rfl
theorem v_lst : evE c (.lst es) ρ = (evEs c es ρ).bind fun ds ρ => if ds.length ≤ 1000 then .ok (.lst ds) ρ else .bad := rfl
theorem v_and : evE c (.and_ a e) ρ = (evE c a ρ).bind fun d ρ => match d.truth with | some true => evE c e ρ | some false => .ok d ρ | none => .bad := rfl
theorem v_or : evE c (.or_ a e) ρ = (evE c a ρ).bind fun d ρ => match d.truth with | some true => .ok d ρ | some false => evE c e ρ | none => .bad := rfl
theorem v_not : evE c (.not_ a) ρ = (evE c a ρ).bind fun d ρ => R.opt ρ (d.truth.map fun b => .bl (!b)) := rfl
theorem v_ite : evE c (.ite g a e) ρ = (evE c g ρ).bind fun d ρ => match d.truth with | some true => evE c a ρ | some false => evE c e ρ | none => .bad := rfl
theorem v_chain : evE c (.chain o p a e l) ρ = (evE c a ρ).bind fun x ρ => (evE c e ρ).bind fun y ρ => match o.ev x y with
      | some true => (evE c l ρ).bind fun z ρ => R.opt ρ ((p.ev y z).map .bl)
      | some false => .ok (.bl false) ρ
      | none => .bad := rfl
theorem v_call {r : Bool} : evE c (.call false r f es) ρ = (evEs c es ρ).bind fun ds ρ => ofCR ρ none (c f ds) := rfl
theorem v_callF {r : Bool} : evE c (.call true r f es) ρ = (evEs c es ρ).bind fun ds ρ => flatR true (ofCR ρ none (c f ds)) := rfl
theorem v_callIo : evE c (.callIo f i es) ρ = match ρ.getD i none with
      | some _ => (evEs c es ρ).bind fun ds ρ => match ρ.getD i none with | some d => ofCR ρ (some i) (c f (d :: ds)) | none => .bad
      | none => .bad := rfl
theorem v_callT : evE c (.callT f a es) ρ = (evE c a ρ).bind fun d ρ => (evEs c es ρ).bind fun ds ρ => match d with | .lst _ => ofCR ρ none (c f (d :: ds)) | _ => .bad := rfl
theorem v_callv : evE c (.callv g es) ρ = (evE c g ρ).bind fun d ρ => match d with | .fn f => (evEs c es ρ).bind fun ds ρ => ofCR ρ none (c f ds) | _ => .bad := rfl
theorem v_nil : evEs c .nil ρ = .ok [] ρ := rfl
theorem v_cons : evEs c (.cons a es) ρ = (evE c a ρ).bind fun d ρ => (evEs c es ρ).bind fun ds ρ => .ok (d :: ds) ρ := rfl
theorem v_seq : evIt c (.seq a) ρ = (evE c a ρ).bind fun d ρ => R.opt ρ d.items := rfl
theorem v_enum : evIt c (.enum a) ρ = (evE c a ρ).bind fun d ρ => R.opt ρ (d.lst?.map (enumD 0)) := rfl
theorem v_zip : evIt c (.zip a e) ρ = (evE c a ρ).bind fun d ρ => (evE c e ρ).bind fun e ρ => R.opt ρ (zipDD d e) := rfl
theorem v_rng1 : evIt c (.range1 a) ρ = (evE c a ρ).bind fun d ρ => R.opt ρ (d.toInt.bind fun i => if -(2 ^ 62) ≤ i ∧ i < 2 ^ 62 then some (rangeD 0 i.toNat) else none) := rfl
theorem v_C : evC c a ρ = (evE c a ρ).bind fun d ρ => R.opt ρ d.truth := rfl
theorem s_asg' : evS c wf (.asg t a) ρ = (evE c a ρ).bind fun d ρ => (R.opt ρ (t.bind d ρ)).bind fun ρ1 _ => .ok .nx ρ1 := rfl
theorem s_asgO' : evS c wf (.asgO i a) ρ = (evE c a ρ).bind fun d ρ => if okO true d && decide (i < ρ.length) then .ok .nx (ρ.set i (some d)) else .bad := rfl
theorem s_asg2' {oi oj : Bool} {j : Nat} : evS c wf (.asg2 oi oj i j a e) ρ = (evE c a ρ).bind fun d ρ => (evE c e ρ).bind fun e ρ => if okO oi d && okO oj e && decide (i < ρ.length) && decide (j < ρ.length) then .ok .nx ((ρ.set i (some d)).set j (some e)) else .bad := rfl
theorem s_expr' : evS c wf (.expr a) ρ = (evE c a ρ).bind fun _ ρ => .ok .nx ρ := rfl
theorem s_ret' : evS c wf (.ret a) ρ = (evE c a ρ).bind fun d ρ => .ok (.ret d) ρ := rfl
theorem s_retN' : evS c wf .retN ρ = .ok (.ret .non) ρ := rfl
theorem s_if' : evS c wf (.if_ g sa sb) ρ = (evC c g ρ).bind fun t ρ => if t then evSs c wf sa ρ else evSs c wf sb ρ := rfl
theorem s_for' : evS c wf (.for_ t it sa) ρ = (evIt c it ρ).bind fun items ρ => forGo (fun x ρ => (R.opt ρ (t.bind x ρ)).bind fun ρ1 _ => evSs c wf sa ρ1) items ρ := rfl
theorem s_while' : evS c wf (.while_ g sa) ρ = whileGo (evC c g) (evSs c wf sa) wf ρ := rfl
theorem s_raise' : evS c wf (.raise1 f a) ρ = (evE c a ρ).bind fun d ρ => .exc ⟨f, some d⟩ ρ := rfl
theorem ss_nil' : evSs c wf .nil ρ = .ok .nx ρ := rfl
theorem ss_cons' : evSs c wf (.cons s ss) ρ = (evS c wf s ρ).bind fun f ρ1 => match f with
    | .nx => evSs c wf ss ρ1
    | f => .ok f ρ1 := rfl
theorem r_ok {α β : Type} {a : α} {f : α → EV.Env → R β} : (R.ok a ρ).bind f = f a ρ := rfl
theorem r_exc {α β : Type} {a : Exc} {f : α → EV.Env → R β} : (R.exc a ρ : R α).bind f = .exc a ρ := rfl
theorem r_opt {α : Type} {a : α} : R.opt ρ (some a) = .ok a ρ := rfl
theorem t_nm : (Tg.nm i).bind d ρ = if i < ρ.length then some (ρ.set i (some d)) else none := rfl
theorem cr_ok {o : D} : ofCR ρ none (.ok d o) = .ok d ρ := rfl
theorem cr_exc {o : D} {z : Exc} : ofCR ρ none (.exc z o) = .exc z ρ := rfl
theorem cr_okS {o : D} : ofCR ρ (some i) (.ok d o) = .ok d (ρ.set i (some o)) := rfl
theorem v_comp {vs : List (Str × Nat)} : evE c (.comp vs t it a) ρ = (evIt c it ρ).bind fun items ρ0 => if items.length ≤ sizeLine then
      (compGo (compF t (fun ρ => .ok true ρ) (evE c a) (vs.map (·.2))) items (wipeE ρ0 (vs.map (·.2)))).bind fun ds ρ4 => .ok (.lst ds) (backE ρ0 ρ4 (vs.map (·.2))) else .bad := rfl
theorem run_of {call : Nat → List D → CR} {di : DefI} {ds : List D} {d : D} {ρ : EV.Env} (hl : ds.length = di.np) (h : evSs call wf di.body (startE di.N ds) = .ok (.ret d) ρ) : runDef call wf di ds = .ok d ((ρ.getD 0 none).getD .non) := by
  unfold runDef
  rw [if_pos hl, h]
theorem run_nx {call : Nat → List D → CR} {di : DefI} {ds : List D} {ρ : EV.Env} (hl : ds.length = di.np) (h : evSs call wf di.body (startE di.N ds) = .ok .nx ρ) : runDef call wf di ds = .ok .non ((ρ.getD 0 none).getD .non) := by
  unfold runDef
  rw [if_pos hl, h]
theorem run_exc {call : Nat → List D → CR} {di : DefI} {ds : List D} {x : Exc} {ρ : EV.Env} (hl : ds.length = di.np) (h : evSs call wf di.body (startE di.N ds) = .exc x ρ) : runDef call wf di ds = .exc x ((ρ.getD 0 none).getD .non) := by
  unfold runDef
  rw [if_pos hl, h]
end
end EV
end
section
set_option autoImplicit false
namespace K49
open PySem PySem.Spec PyProof.Rows L2 EV
/-- is_number -/
def d0 : DefI := ⟨"is_number", ["thing"], 1, false, false, [], (.cons (.ret (.and_ (.un .isInt (.var 0)) (.not_ (.un .isBool (.var 0))))) .nil)⟩
/-- is_from -/
def d1 : DefI := ⟨"is_from", ["thing", "least"], 2, false, false, [], (.cons (.ret (.and_ (.call false false 0 (.cons (.var 0) .nil)) (.bin (.cmp .ge) (.var 0) (.var 1)))) .nil)⟩
/-- tuple_of -/
def d2 : DefI := ⟨"tuple_of", ["thing", "part"], 1, false, false, [], (.cons (.if_ (.un .isLT (.var 0)) (.cons (.ret (.un .tuple (.comp [("part", 1)] (.nm 1) (.seq (.var 0)) (.call false false 2 (.cons (.var 1) .nil))))) .nil) .nil) (.cons (.ret (.var 0)) .nil))⟩
/-- is_tuple_of -/
def d3 : DefI := ⟨"is_tuple_of", ["thing", "many"], 2, false, false, [], (.cons (.ret (.and_ (.un .isTup (.var 0)) (.bin (.cmp .eq) (.un .len (.var 0)) (.var 1)))) .nil)⟩
/-- sure -/
def d4 : DefI := ⟨"sure", ["flag"], 1, false, false, [], (.cons (.if_ (.not_ (.var 0)) (.cons .never .nil) .nil) .nil)⟩
/-- is_name -/
def d5 : DefI := ⟨"is_name", ["thing", "sign"], 1, false, false, [], (.cons (.ret (.and_ (.un .isStr (.var 0)) (.and_ (.chain .le .le (.lit (.int 1)) (.un .len (.var 0)) (.glob "MOST_NAME" (.int 8))) (.un .all (.comp [("sign", 1)] (.nm 1) (.seq (.var 0)) (.bin (.cmp .isin) (.var 1) (.glob "SMALL" (.str [97, 98, 99, 100, 101, 102, 103, 104, 105, 106, 107, 108, 109, 110, 111, 112, 113, 114, 115, 116, 117, 118, 119, 120, 121, 122])))))))) .nil)⟩
/-- is_term -/
def d6 : DefI := ⟨"is_term", ["thing", "part"], 1, false, false, [], (.cons (.if_ (.or_ (.not_ (.un .isTup (.var 0))) (.or_ (.not_ (.chain .le .le (.lit (.int 1)) (.un .len (.var 0)) (.bin .add (.glob "MOST_PARTS" (.int 3)) (.lit (.int 1))))) (.not_ (.call false false 5 (.cons (.bin .idx (.var 0) (.lit (.int 0))) .nil))))) (.cons (.ret (.lit (.bl false))) .nil) .nil) (.cons (.ret (.un .all (.comp [("part", 1)] (.nm 1) (.seq (.slL (.var 0) (.lit (.int 1)))) (.call false false 6 (.cons (.var 1) .nil))))) .nil))⟩
/-- is_rule -/
def d7 : DefI := ⟨"is_rule", ["thing"], 1, false, false, [], (.cons (.ret (.and_ (.call false false 3 (.cons (.var 0) (.cons (.lit (.int 2)) .nil))) (.and_ (.call false false 6 (.cons (.bin .idx (.var 0) (.lit (.int 0))) .nil)) (.and_ (.call false false 6 (.cons (.bin .idx (.var 0) (.lit (.int 1))) .nil)) (.bin (.cmp .ne) (.bin .idx (.var 0) (.lit (.int 0))) (.bin .idx (.var 0) (.lit (.int 1)))))))) .nil)⟩
/-- is_book -/
def d8 : DefI := ⟨"is_book", ["thing", "rule"], 1, false, false, [], (.cons (.ret (.and_ (.un .isTup (.var 0)) (.and_ (.bin (.cmp .le) (.un .len (.var 0)) (.glob "MOST_RULES" (.int 5))) (.un .all (.comp [("rule", 1)] (.nm 1) (.seq (.var 0)) (.call false false 7 (.cons (.var 1) .nil))))))) .nil)⟩
/-- is_pair -/
def d9 : DefI := ⟨"is_pair", ["thing", "number"], 1, false, false, [], (.cons (.if_ (.or_ (.not_ (.call false false 3 (.cons (.var 0) (.cons (.lit (.int 2)) .nil)))) (.or_ (.not_ (.un .isTup (.bin .idx (.var 0) (.lit (.int 0))))) (.not_ (.call false false 1 (.cons (.bin .idx (.var 0) (.lit (.int 1))) (.cons (.lit (.int 0)) .nil)))))) (.cons (.ret (.lit (.bl false))) .nil) .nil) (.cons (.ret (.un .all (.comp [("number", 1)] (.nm 1) (.seq (.bin .idx (.var 0) (.lit (.int 0)))) (.call false false 1 (.cons (.var 1) (.cons (.lit (.int 0)) .nil)))))) .nil))⟩
/-- made_text -/
def d10 : DefI := ⟨"made_text", ["term", "part"], 1, false, false, [], (.cons (.if_ (.bin (.cmp .eq) (.un .len (.var 0)) (.lit (.int 1))) (.cons (.ret (.bin .idx (.var 0) (.lit (.int 0)))) .nil) .nil) (.cons (.ret (.bin .add (.bin .add (.bin .add (.bin .idx (.var 0) (.lit (.int 0))) (.lit (.str [40]))) (.bin .join (.lit (.str [44])) (.comp [("part", 1)] (.nm 1) (.seq (.slL (.var 0) (.lit (.int 1)))) (.call false false 10 (.cons (.var 1) .nil))))) (.lit (.str [41])))) .nil))⟩
/-- term_text -/
def d11 : DefI := ⟨"term_text", ["term", "own"], 1, false, false, [], (.cons (.asg (.nm 1) (.call false false 2 (.cons (.var 0) .nil))) (.cons (.expr (.call false false 4 (.cons (.call false false 6 (.cons (.var 1) .nil)) .nil))) (.cons (.ret (.call false false 10 (.cons (.var 1) .nil))) .nil)))⟩
/-- made_rule_text -/
def d12 : DefI := ⟨"made_rule_text", ["rule"], 1, false, false, [], (.cons (.ret (.bin .add (.bin .add (.call false false 10 (.cons (.bin .idx (.var 0) (.lit (.int 0))) .nil)) (.glob "TO" (.str [32, 116, 111, 32]))) (.call false false 10 (.cons (.bin .idx (.var 0) (.lit (.int 1))) .nil)))) .nil)⟩
/-- rule_text -/
def d13 : DefI := ⟨"rule_text", ["rule", "own"], 1, false, false, [], (.cons (.asg (.nm 1) (.call false false 2 (.cons (.var 0) .nil))) (.cons (.expr (.call false false 4 (.cons (.call false false 7 (.cons (.var 1) .nil)) .nil))) (.cons (.ret (.call false false 12 (.cons (.var 1) .nil))) .nil)))⟩
/-- made_book_text -/
def d14 : DefI := ⟨"made_book_text", ["book", "rule"], 1, false, false, [], (.cons (.ret (.ite (.bin (.cmp .gt) (.un .len (.var 0)) (.lit (.int 0))) (.bin .join (.glob "BETWEEN" (.str [59, 32])) (.comp [("rule", 1)] (.nm 1) (.seq (.var 0)) (.call false false 12 (.cons (.var 1) .nil)))) (.glob "NOTHING" (.str [45])))) .nil)⟩
/-- book_text -/
def d15 : DefI := ⟨"book_text", ["book", "own"], 1, false, false, [], (.cons (.asg (.nm 1) (.call false false 2 (.cons (.var 0) .nil))) (.cons (.expr (.call false false 4 (.cons (.call false false 8 (.cons (.var 1) .nil)) .nil))) (.cons (.ret (.call false false 14 (.cons (.var 1) .nil))) .nil)))⟩
/-- words_of -/
def d16 : DefI := ⟨"words_of", ["numbers", "own"], 1, false, false, [], (.cons (.ret (.ite (.bin (.cmp .gt) (.un .len (.var 0)) (.lit (.int 0))) (.bin .join (.glob "BLANK" (.str [32])) (.comp [("own", 1)] (.nm 1) (.seq (.var 0)) (.un .str (.var 1)))) (.glob "NOTHING" (.str [45])))) .nil)⟩
/-- row_text -/
def d17 : DefI := ⟨"row_text", ["row", "own", "far"], 1, false, false, [], (.cons (.asg (.nm 1) (.call false false 2 (.cons (.var 0) .nil))) (.cons (.expr (.call false false 4 (.cons (.and_ (.un .isTup (.var 1)) (.un .all (.comp [("far", 2)] (.nm 2) (.seq (.var 1)) (.call false false 1 (.cons (.var 2) (.cons (.lit (.int 0)) .nil)))))) .nil))) (.cons (.ret (.call false false 16 (.cons (.var 1) .nil))) .nil)))⟩
/-- step_text -/
def d18 : DefI := ⟨"step_text", ["step", "place", "number"], 1, false, false, [], (.cons (.asg (.nm 1) (.ite (.bin (.cmp .gt) (.un .len (.bin .idx (.var 0) (.lit (.int 0)))) (.lit (.int 0))) (.bin .join (.lit (.str [46])) (.comp [("number", 2)] (.nm 2) (.seq (.bin .idx (.var 0) (.lit (.int 0)))) (.un .str (.var 2)))) (.glob "NOTHING" (.str [45])))) (.cons (.ret (.bin .add (.bin .add (.var 1) (.lit (.str [58]))) (.un .str (.bin .idx (.var 0) (.lit (.int 1)))))) .nil))⟩
/-- made_run_text -/
def d19 : DefI := ⟨"made_run_text", ["run", "step"], 1, false, false, [], (.cons (.ret (.ite (.bin (.cmp .gt) (.un .len (.var 0)) (.lit (.int 0))) (.bin .join (.glob "BLANK" (.str [32])) (.comp [("step", 1)] (.nm 1) (.seq (.var 0)) (.call false false 18 (.cons (.var 1) .nil)))) (.glob "NOTHING" (.str [45])))) .nil)⟩
/-- run_text -/
def d20 : DefI := ⟨"run_text", ["run", "own", "step"], 1, false, false, [], (.cons (.asg (.nm 1) (.call false false 2 (.cons (.var 0) .nil))) (.cons (.expr (.call false false 4 (.cons (.and_ (.un .isTup (.var 1)) (.un .all (.comp [("step", 2)] (.nm 2) (.seq (.var 1)) (.call false false 9 (.cons (.var 2) .nil))))) .nil))) (.cons (.ret (.call false false 19 (.cons (.var 1) .nil))) .nil)))⟩
/-- number_in -/
def d21 : DefI := ⟨"number_in", ["word", "sign"], 1, false, false, [], (.cons (.if_ (.or_ (.not_ (.chain .lt .le (.lit (.int 0)) (.un .len (.var 0)) (.glob "MOST_DIGITS" (.int 6)))) (.not_ (.un .all (.comp [("sign", 1)] (.nm 1) (.seq (.var 0)) (.bin (.cmp .isin) (.var 1) (.glob "DIGITS" (.str [48, 49, 50, 51, 52, 53, 54, 55, 56, 57]))))))) (.cons (.ret (.lit .non)) .nil) .nil) (.cons (.ret (.ite (.and_ (.bin (.cmp .eq) (.bin .idx (.var 0) (.lit (.int 0))) (.lit (.str [48]))) (.bin (.cmp .ne) (.var 0) (.lit (.str [48])))) (.lit .non) (.un .int (.var 0)))) .nil))⟩
/-- name_end -/
def d22 : DefI := ⟨"name_end", ["text", "at"], 2, false, false, [], (.cons (.while_ (.and_ (.bin (.cmp .lt) (.var 1) (.un .len (.var 0))) (.bin (.cmp .isin) (.bin .idx (.var 0) (.var 1)) (.glob "SMALL" (.str [97, 98, 99, 100, 101, 102, 103, 104, 105, 106, 107, 108, 109, 110, 111, 112, 113, 114, 115, 116, 117, 118, 119, 120, 121, 122])))) (.cons (.aug 1 (.lit (.int 1))) .nil)) (.cons (.ret (.var 1)) .nil))⟩
/-- read_term -/
def d23 : DefI := ⟨"read_term", ["text", "at", "end", "found", "part"], 2, false, false, [], (.cons (.asg (.nm 2) (.call false false 22 (.cons (.var 0) (.cons (.var 1) .nil)))) (.cons (.if_ (.not_ (.chain .lt .le (.lit (.int 0)) (.bin .sub (.var 2) (.var 1)) (.glob "MOST_NAME" (.int 8)))) (.cons (.ret (.lit .non)) .nil) .nil) (.cons (.asg (.nm 3) (.tup (.cons (.slLH (.var 0) (.var 1) (.var 2)) .nil))) (.cons (.if_ (.bin (.cmp .ne) (.slLH (.var 0) (.var 2) (.bin .add (.var 2) (.lit (.int 1)))) (.lit (.str [40]))) (.cons (.ret (.tup (.cons (.var 3) (.cons (.var 2) .nil)))) .nil) .nil) (.cons (.while_ (.and_ (.bin (.cmp .isin) (.slLH (.var 0) (.var 2) (.bin .add (.var 2) (.lit (.int 1)))) (.tup (.cons (.lit (.str [40])) (.cons (.lit (.str [44])) .nil)))) (.bin (.cmp .lt) (.var 2) (.un .len (.var 0)))) (.cons (.if_ (.and_ (.bin (.cmp .eq) (.bin .idx (.var 0) (.var 2)) (.lit (.str [40]))) (.bin (.cmp .gt) (.un .len (.var 3)) (.lit (.int 1)))) (.cons (.ret (.lit .non)) .nil) .nil) (.cons (.asg (.nm 4) (.call false false 23 (.cons (.var 0) (.cons (.bin .add (.var 2) (.lit (.int 1))) .nil)))) (.cons (.if_ (.or_ (.un .isNone (.var 4)) (.bin (.cmp .gt) (.un .len (.var 3)) (.glob "MOST_PARTS" (.int 3)))) (.cons (.ret (.lit .non)) .nil) .nil) (.cons (.asg2 false false 3 2 (.bin .add (.var 3) (.tup (.cons (.bin .idx (.var 4) (.lit (.int 0))) .nil))) (.bin .idx (.var 4) (.lit (.int 1)))) .nil))))) (.cons (.ret (.ite (.bin (.cmp .eq) (.slLH (.var 0) (.var 2) (.bin .add (.var 2) (.lit (.int 1)))) (.lit (.str [41]))) (.tup (.cons (.var 3) (.cons (.bin .add (.var 2) (.lit (.int 1))) .nil))) (.lit .non))) .nil))))))⟩
/-- whole_term -/
def d24 : DefI := ⟨"whole_term", ["text", "found"], 1, false, false, [], (.cons (.asg (.nm 1) (.call false false 23 (.cons (.var 0) (.cons (.lit (.int 0)) .nil)))) (.cons (.ret (.ite (.and_ (.un .notNone (.var 1)) (.bin (.cmp .eq) (.bin .idx (.var 1) (.lit (.int 1))) (.un .len (.var 0)))) (.bin .idx (.var 1) (.lit (.int 0))) (.lit .non))) .nil))⟩
/-- whole_rule -/
def d25 : DefI := ⟨"whole_rule", ["text", "found", "part"], 1, false, false, [], (.cons (.asg (.nm 1) (.un .tuple (.comp [("part", 2)] (.nm 2) (.seq (.bin .split (.var 0) (.glob "TO" (.str [32, 116, 111, 32])))) (.call false false 24 (.cons (.var 2) .nil))))) (.cons (.ret (.ite (.and_ (.bin (.cmp .notin) (.lit .non) (.var 1)) (.call false false 7 (.cons (.var 1) .nil))) (.var 1) (.lit .non))) .nil))⟩
/-- whole_book -/
def d26 : DefI := ⟨"whole_book", ["text", "found", "part"], 1, false, false, [], (.cons (.asg (.nm 1) (.ite (.bin (.cmp .ne) (.var 0) (.glob "NOTHING" (.str [45]))) (.un .tuple (.comp [("part", 2)] (.nm 2) (.seq (.bin .split (.var 0) (.glob "BETWEEN" (.str [59, 32])))) (.call false false 25 (.cons (.var 2) .nil)))) (.tup .nil))) (.cons (.ret (.ite (.and_ (.bin (.cmp .notin) (.lit .non) (.var 1)) (.call false false 8 (.cons (.var 1) .nil))) (.var 1) (.lit .non))) .nil))⟩
/-- numbers_in -/
def d27 : DefI := ⟨"numbers_in", ["words", "found", "word"], 1, false, false, [], (.cons (.asg (.nm 1) (.un .tuple (.comp [("word", 2)] (.nm 2) (.seq (.var 0)) (.call false false 21 (.cons (.var 2) .nil))))) (.cons (.ret (.ite (.bin (.cmp .isin) (.lit .non) (.var 1)) (.lit .non) (.var 1))) .nil))⟩
/-- whole_row -/
def d28 : DefI := ⟨"whole_row", ["text"], 1, false, false, [], (.cons (.ret (.ite (.bin (.cmp .ne) (.var 0) (.glob "NOTHING" (.str [45]))) (.call false false 27 (.cons (.bin .split (.var 0) (.glob "BLANK" (.str [32]))) .nil)) (.tup .nil))) .nil)⟩
/-- whole_step -/
def d29 : DefI := ⟨"whole_step", ["word", "parts", "place", "number"], 1, false, false, [], (.cons (.asg (.nm 1) (.bin .split (.var 0) (.lit (.str [58])))) (.cons (.if_ (.bin (.cmp .ne) (.un .len (.var 1)) (.lit (.int 2))) (.cons (.ret (.lit .non)) .nil) .nil) (.cons (.asg (.nm 2) (.ite (.bin (.cmp .ne) (.bin .idx (.var 1) (.lit (.int 0))) (.glob "NOTHING" (.str [45]))) (.call false false 27 (.cons (.bin .split (.bin .idx (.var 1) (.lit (.int 0))) (.lit (.str [46]))) .nil)) (.tup .nil))) (.cons (.asg (.nm 3) (.call false false 21 (.cons (.bin .idx (.var 1) (.lit (.int 1))) .nil))) (.cons (.ret (.ite (.and_ (.un .notNone (.var 2)) (.un .notNone (.var 3))) (.tup (.cons (.var 2) (.cons (.var 3) .nil))) (.lit .non))) .nil)))))⟩
/-- whole_run -/
def d30 : DefI := ⟨"whole_run", ["text", "found", "word"], 1, false, false, [], (.cons (.asg (.nm 1) (.ite (.bin (.cmp .ne) (.var 0) (.glob "NOTHING" (.str [45]))) (.un .tuple (.comp [("word", 2)] (.nm 2) (.seq (.bin .split (.var 0) (.glob "BLANK" (.str [32])))) (.call false false 29 (.cons (.var 2) .nil)))) (.tup .nil))) (.cons (.ret (.ite (.bin (.cmp .isin) (.lit .non) (.var 1)) (.lit .non) (.var 1))) .nil))⟩
/-- found_in -/
def d31 : DefI := ⟨"found_in", ["found", "text"], 2, false, false, [], (.cons (.if_ (.un .isNone (.var 0)) (.cons (.raise1 0 (.var 1)) .nil) .nil) (.cons (.ret (.var 0)) .nil))⟩
/-- term_in -/
def d32 : DefI := ⟨"term_in", ["text"], 1, false, false, [], (.cons (.expr (.call false false 4 (.cons (.un .isStr (.var 0)) .nil))) (.cons (.ret (.call false false 31 (.cons (.call false false 24 (.cons (.var 0) .nil)) (.cons (.var 0) .nil)))) .nil))⟩
/-- rule_in -/
def d33 : DefI := ⟨"rule_in", ["text"], 1, false, false, [], (.cons (.expr (.call false false 4 (.cons (.un .isStr (.var 0)) .nil))) (.cons (.ret (.call false false 31 (.cons (.call false false 25 (.cons (.var 0) .nil)) (.cons (.var 0) .nil)))) .nil))⟩
/-- book_in -/
def d34 : DefI := ⟨"book_in", ["text"], 1, false, false, [], (.cons (.expr (.call false false 4 (.cons (.un .isStr (.var 0)) .nil))) (.cons (.ret (.call false false 31 (.cons (.call false false 26 (.cons (.var 0) .nil)) (.cons (.var 0) .nil)))) .nil))⟩
/-- row_in -/
def d35 : DefI := ⟨"row_in", ["text"], 1, false, false, [], (.cons (.expr (.call false false 4 (.cons (.un .isStr (.var 0)) .nil))) (.cons (.ret (.call false false 31 (.cons (.call false false 28 (.cons (.var 0) .nil)) (.cons (.var 0) .nil)))) .nil))⟩
/-- run_in -/
def d36 : DefI := ⟨"run_in", ["text"], 1, false, false, [], (.cons (.expr (.call false false 4 (.cons (.un .isStr (.var 0)) .nil))) (.cons (.ret (.call false false 31 (.cons (.call false false 30 (.cons (.var 0) .nil)) (.cons (.var 0) .nil)))) .nil))⟩
/-- _law_box -/
def d37 : DefI := ⟨"_law_box", ["script", "k", "cell"], 2, false, true, [], (.cons (.asg (.nm 2) (.ite (.bin (.cmp .lt) (.var 1) (.un .len (.var 0))) (.bin .idx (.var 0) (.var 1)) (.lit (.int 0)))) (.cons (.ret (.lst (.cons (.bin .mul (.un .abs (.var 2)) (.un .int (.bin (.cmp .ge) (.un .abs (.var 2)) (.bin .pow (.lit (.int 10)) (.lit (.int 18)))))) (.cons (.bin .add (.bin .add (.bin .mod (.un .int (.var 2)) (.lit (.int 2305843009213693951))) (.bin .mul (.lit (.int 39373)) (.var 1))) (.lit (.int 2631649))) (.cons (.lit (.int 0)) .nil))))) .nil))⟩
/-- _law_take -/
def d38 : DefI := ⟨"_law_take", ["box", "size_so", "once", "far", "twice", "drawn"], 2, true, false, [0], (.cons (.if_ (.bin (.cmp .gt) (.bin .idx (.var 0) (.lit (.int 0))) (.lit (.int 0))) (.cons (.asg (.nm 5) (.bin .mod (.un .int (.bin .idx (.var 0) (.lit (.int 0)))) (.var 1))) (.cons (.store 0 (.lit (.int 0)) (.bin .fdiv (.bin .idx (.var 0) (.lit (.int 0))) (.var 1))) (.cons (.ret (.var 5)) .nil))) .nil) (.cons (.store 0 (.lit (.int 2)) (.bin .add (.bin .idx (.var 0) (.lit (.int 2))) (.lit (.int 1)))) (.cons (.asg (.nm 2) (.bin .mod (.un .int (.bin .mul (.bin .add (.bin .idx (.var 0) (.lit (.int 1))) (.bin .mul (.lit (.int 48271)) (.bin .idx (.var 0) (.lit (.int 2))))) (.bin .add (.lit (.int 39373)) (.bin .idx (.var 0) (.lit (.int 2)))))) (.lit (.int 2147483647)))) (.cons (.asg (.nm 3) (.bin .add (.bin .mod (.un .int (.var 2)) (.lit (.int 40009))) (.lit (.int 7)))) (.cons (.asg (.nm 4) (.bin .mod (.un .int (.bin .mul (.bin .add (.bin .add (.var 2) (.bin .idx (.var 0) (.lit (.int 2)))) (.bin .fdiv (.bin .idx (.var 0) (.lit (.int 1))) (.lit (.int 1000003)))) (.var 3))) (.lit (.int 2147483629)))) (.cons (.ret (.bin .mod (.un .int (.bin .fdiv (.bin .mod (.un .int (.bin .add (.bin .mul (.var 4) (.lit (.int 48271))) (.var 2))) (.lit (.int 2147483587))) (.lit (.int 64)))) (.var 1))) .nil))))))⟩
/-- _law_cells -/
def d39 : DefI := ⟨"_law_cells", ["script", "top_so", "cells_so", "k", "cell", "at_so"], 2, false, false, [2], (.cons (.asgO 2 (.or_ (.un .list (.slH (.var 0) (.var 1))) (.lst (.cons (.lit (.int 0)) .nil)))) (.cons (.for_ (.tp (.cons (.nm 3) (.cons (.nm 4) .nil))) (.enum (.slLH (.var 0) (.var 1) (.lit (.int 63)))) (.cons (.asg (.nm 5) (.bin .mod (.un .int (.var 3)) (.var 1))) (.cons (.store 2 (.var 5) (.bin .add (.bin .idx (.var 2) (.var 5)) (.bin .mul (.var 4) (.bin .add (.var 3) (.lit (.int 2)))))) .nil))) (.cons (.ret (.var 2)) .nil)))⟩
/-- _law_same -/
def d40 : DefI := ⟨"_law_same", ["got", "due", "mine", "its"], 2, false, false, [], (.cons (.if_ (.un .isLT (.var 1)) (.cons (.if_ (.or_ (.bin (.cmp .ne) (.un .isLst (.var 0)) (.un .isLst (.var 1))) (.bin (.cmp .ne) (.un .isTup (.var 0)) (.un .isTup (.var 1)))) (.cons (.ret (.lit (.bl false))) .nil) .nil) (.cons (.ret (.and_ (.bin (.cmp .eq) (.un .len (.var 0)) (.un .len (.var 1))) (.un .all (.comp [("mine", 2), ("its", 3)] (.tp (.cons (.nm 2) (.cons (.nm 3) .nil))) (.zip (.var 0) (.var 1)) (.call false false 40 (.cons (.var 2) (.cons (.var 3) .nil))))))) .nil)) .nil) (.cons (.if_ (.or_ (.un .isNone (.var 1)) (.un .isBS (.var 1))) (.cons (.ret (.and_ (.bin (.cmp .eq) (.var 0) (.var 1)) (.and_ (.bin (.cmp .eq) (.un .isBool (.var 0)) (.un .isBool (.var 1))) (.bin (.cmp .eq) (.un .isNone (.var 0)) (.un .isNone (.var 1)))))) .nil) .nil) (.cons (.ret (.and_ (.un .isInt (.var 0)) (.and_ (.not_ (.un .isBool (.var 0))) (.bin (.cmp .eq) (.var 0) (.var 1))))) .nil)))⟩
/-- _law_of -/
def d41 : DefI := ⟨"_law_of", ["box", "pool_so"], 2, true, false, [0], (.cons (.ret (.bin .idx (.var 1) (.callIo 38 0 (.cons (.un .len (.var 1)) .nil)))) .nil)⟩
/-- _law_heard -/
def d42 : DefI := ⟨"_law_heard", ["door", "text", "found", "calls", "err"], 2, false, false, [], (.cons (.asg (.nm 2) (.lit .non)) (.cons (.asg (.nm 3) (.lst (.cons (.fn 32) (.cons (.fn 33) (.cons (.fn 34) (.cons (.fn 35) (.cons (.fn 36) .nil))))))) (.cons (.try_ (.cons (.asg (.nm 2) (.tup (.cons (.callv (.bin .idx (.var 3) (.var 0)) (.cons (.var 1) .nil)) .nil))) .nil) 0 (some 4) (.setP 2 [66, 97, 100, 84, 101, 120, 116])) (.cons (.ret (.var 2)) .nil))))⟩
/-- _law_small -/
def d43 : DefI := ⟨"_law_small", [], 0, false, false, [], (.cons (.ret (.lit (.str [97, 98, 99, 100, 101, 102, 103, 104, 105, 106, 107, 108, 109, 110, 111, 112, 113, 114, 115, 116, 117, 118, 119, 120, 121, 122]))) .nil)⟩
/-- _law_term_in -/
def d44 : DefI := ⟨"_law_term_in", ["text", "k", "end", "term", "turn", "part"], 2, false, false, [], (.cons (.asg (.nm 2) (.var 1)) (.cons (.while_ (.and_ (.bin (.cmp .lt) (.var 2) (.un .len (.var 0))) (.and_ (.bin (.cmp .isin) (.bin .idx (.var 0) (.var 2)) (.call false false 43 .nil)) (.bin (.cmp .lt) (.var 2) (.bin .add (.var 1) (.lit (.int 9)))))) (.cons (.asg (.nm 2) (.bin .add (.var 2) (.lit (.int 1)))) .nil)) (.cons (.if_ (.not_ (.chain .lt .lt (.lit (.int 0)) (.bin .sub (.var 2) (.var 1)) (.lit (.int 9)))) (.cons (.ret (.tup (.cons (.lit .non) (.cons (.var 1) .nil)))) .nil) .nil) (.cons (.asg (.nm 3) (.tup (.cons (.slLH (.var 0) (.var 1) (.var 2)) .nil))) (.cons (.if_ (.and_ (.bin (.cmp .lt) (.var 2) (.un .len (.var 0))) (.bin (.cmp .eq) (.bin .idx (.var 0) (.var 2)) (.lit (.str [40])))) (.cons (.for_ (.nm 4) (.range1 (.lit (.int 4))) (.cons (.asg (.tp (.cons (.nm 5) (.cons (.nm 2) .nil))) (.call false false 44 (.cons (.var 0) (.cons (.bin .add (.var 2) (.lit (.int 1))) .nil)))) (.cons (.if_ (.or_ (.un .isNone (.var 5)) (.bin (.cmp .ge) (.var 2) (.un .len (.var 0)))) (.cons (.ret (.tup (.cons (.lit .non) (.cons (.var 2) .nil)))) .nil) .nil) (.cons (.asg (.nm 3) (.bin .add (.var 3) (.tup (.cons (.bin .idx (.var 5) (.lit (.int 0))) .nil)))) (.cons (.if_ (.bin (.cmp .eq) (.bin .idx (.var 0) (.var 2)) (.lit (.str [41]))) (.cons (.ret (.ite (.bin (.cmp .lt) (.un .len (.var 3)) (.lit (.int 5))) (.tup (.cons (.lst (.cons (.var 3) .nil)) (.cons (.bin .add (.var 2) (.lit (.int 1))) .nil))) (.tup (.cons (.lit .non) (.cons (.var 2) .nil))))) .nil) .nil) (.cons (.if_ (.bin (.cmp .ne) (.bin .idx (.var 0) (.var 2)) (.lit (.str [44]))) (.cons (.ret (.tup (.cons (.lit .non) (.cons (.var 2) .nil)))) .nil) .nil) .nil)))))) (.cons (.ret (.tup (.cons (.lit .non) (.cons (.var 2) .nil)))) .nil)) .nil) (.cons (.ret (.tup (.cons (.lst (.cons (.var 3) .nil)) (.cons (.var 2) .nil)))) .nil))))))⟩
/-- _law_whole_term -/
def d45 : DefI := ⟨"_law_whole_term", ["text", "found", "end"], 1, false, false, [], (.cons (.asg (.tp (.cons (.nm 1) (.cons (.nm 2) .nil))) (.call false false 44 (.cons (.var 0) (.cons (.lit (.int 0)) .nil)))) (.cons (.ret (.ite (.and_ (.un .notNone (.var 1)) (.bin (.cmp .eq) (.var 2) (.un .len (.var 0)))) (.var 1) (.lit .non))) .nil))⟩
/-- _law_rule -/
def d46 : DefI := ⟨"_law_rule", ["text", "parts", "sides", "part"], 1, false, false, [], (.cons (.asg (.nm 1) (.bin .split (.var 0) (.lit (.str [32, 116, 111, 32])))) (.cons (.asg (.nm 2) (.comp [("part", 3)] (.nm 3) (.seq (.var 1)) (.call false false 45 (.cons (.var 3) .nil)))) (.cons (.if_ (.or_ (.bin (.cmp .ne) (.un .len (.var 1)) (.lit (.int 2))) (.or_ (.bin (.cmp .isin) (.lit .non) (.var 2)) (.bin (.cmp .eq) (.bin .idx (.var 2) (.lit (.int 0))) (.bin .idx (.var 2) (.lit (.int 1)))))) (.cons (.ret (.lit .non)) .nil) .nil) (.cons (.ret (.lst (.cons (.tup (.cons (.bin .idx (.bin .idx (.var 2) (.lit (.int 0))) (.lit (.int 0))) (.cons (.bin .idx (.bin .idx (.var 2) (.lit (.int 1))) (.lit (.int 0))) .nil))) .nil))) .nil))))⟩
/-- _law_number -/
def d47 : DefI := ⟨"_law_number", ["text", "sign"], 1, false, false, [], (.cons (.if_ (.or_ (.not_ (.chain .lt .lt (.lit (.int 0)) (.un .len (.var 0)) (.lit (.int 7)))) (.or_ (.bin (.cmp .ne) (.compIf [("sign", 1)] (.nm 1) (.seq (.var 0)) (.bin (.cmp .notin) (.var 1) (.lit (.str [48, 49, 50, 51, 52, 53, 54, 55, 56, 57]))) (.var 1)) (.lst .nil)) (.and_ (.bin (.cmp .eq) (.bin .idx (.var 0) (.lit (.int 0))) (.lit (.str [48]))) (.bin (.cmp .gt) (.un .len (.var 0)) (.lit (.int 1)))))) (.cons (.ret (.lit .non)) .nil) .nil) (.cons (.ret (.un .int (.var 0))) .nil))⟩
/-- _law_numbers -/
def d48 : DefI := ⟨"_law_numbers", ["text", "sign", "found", "part"], 2, false, false, [], (.cons (.asg (.nm 2) (.comp [("part", 3)] (.nm 3) (.seq (.bin .split (.var 0) (.var 1))) (.call false false 47 (.cons (.var 3) .nil)))) (.cons (.ret (.ite (.bin (.cmp .isin) (.lit .non) (.var 2)) (.lit .non) (.un .tuple (.var 2)))) .nil))⟩
/-- _law_step -/
def d49 : DefI := ⟨"_law_step", ["text", "parts", "place", "number"], 1, false, false, [], (.cons (.asg (.nm 1) (.bin .split (.var 0) (.lit (.str [58])))) (.cons (.if_ (.bin (.cmp .ne) (.un .len (.var 1)) (.lit (.int 2))) (.cons (.ret (.lit .non)) .nil) .nil) (.cons (.asg (.nm 2) (.ite (.bin (.cmp .eq) (.bin .idx (.var 1) (.lit (.int 0))) (.lit (.str [45]))) (.tup .nil) (.call false false 48 (.cons (.bin .idx (.var 1) (.lit (.int 0))) (.cons (.lit (.str [46])) .nil))))) (.cons (.asg (.nm 3) (.call false false 47 (.cons (.bin .idx (.var 1) (.lit (.int 1))) .nil))) (.cons (.ret (.ite (.or_ (.un .isNone (.var 2)) (.un .isNone (.var 3))) (.lit .non) (.tup (.cons (.var 2) (.cons (.var 3) .nil))))) .nil)))))⟩
/-- _law_read -/
def d50 : DefI := ⟨"_law_read", ["door", "text", "steps", "rules", "row", "part", "own"], 2, false, false, [], (.cons (.if_ (.bin (.cmp .lt) (.var 0) (.lit (.int 2))) (.cons (.ret (.ite (.bin (.cmp .eq) (.var 0) (.lit (.int 0))) (.call false false 45 (.cons (.var 1) .nil)) (.call false false 46 (.cons (.var 1) .nil)))) .nil) .nil) (.cons (.if_ (.bin (.cmp .eq) (.var 1) (.lit (.str [45]))) (.cons (.ret (.lst (.cons (.tup .nil) .nil))) .nil) .nil) (.cons (.if_ (.bin (.cmp .eq) (.var 0) (.lit (.int 2))) (.cons (.asg (.nm 3) (.comp [("part", 5)] (.nm 5) (.seq (.bin .split (.var 1) (.lit (.str [59, 32])))) (.call false false 46 (.cons (.var 5) .nil)))) (.cons (.ret (.ite (.bin (.cmp .isin) (.lit .non) (.var 3)) (.lit .non) (.lst (.cons (.un .tuple (.comp [("own", 6)] (.nm 6) (.seq (.var 3)) (.bin .idx (.var 6) (.lit (.int 0))))) .nil)))) .nil)) .nil) (.cons (.if_ (.bin (.cmp .eq) (.var 0) (.lit (.int 3))) (.cons (.asg (.nm 4) (.call false false 48 (.cons (.var 1) (.cons (.lit (.str [32])) .nil)))) (.cons (.ret (.ite (.un .isNone (.var 4)) (.lit .non) (.lst (.cons (.var 4) .nil)))) .nil)) .nil) (.cons (.asg (.nm 2) (.comp [("part", 5)] (.nm 5) (.seq (.bin .split (.var 1) (.lit (.str [32])))) (.call false false 49 (.cons (.var 5) .nil)))) (.cons (.ret (.ite (.bin (.cmp .isin) (.lit .non) (.var 2)) (.lit .non) (.lst (.cons (.un .tuple (.var 2)) .nil)))) .nil))))))⟩
/-- _law_term -/
def d51 : DefI := ⟨"_law_term", ["box", "size", "many", "k"], 2, true, false, [0], (.cons (.if_ (.or_ (.bin (.cmp .lt) (.var 1) (.lit (.int 2))) (.bin (.cmp .eq) (.callIo 38 0 (.cons (.lit (.int 3)) .nil)) (.lit (.int 0)))) (.cons (.ret (.callIo 41 0 (.cons (.lst (.cons (.lit (.str [97])) (.cons (.lit (.str [98])) (.cons (.lit (.str [108, 111, 110, 103, 110, 97, 109, 101])) .nil)))) .nil))) .nil) .nil) (.cons (.asg (.nm 2) (.bin .add (.lit (.int 1)) (.callIo 38 0 (.cons (.bin .min2 (.lit (.int 3)) (.bin .sub (.var 1) (.lit (.int 1)))) .nil)))) (.cons (.ret (.bin .add (.bin .add (.bin .add (.callIo 41 0 (.cons (.lst (.cons (.lit (.str [102])) (.cons (.lit (.str [116, 111])) .nil))) .nil)) (.lit (.str [40]))) (.bin .join (.lit (.str [44])) (.comp [("k", 3)] (.nm 3) (.range1 (.var 2)) (.callIo 51 0 (.cons (.bin .fdiv (.bin .sub (.var 1) (.lit (.int 1))) (.var 2)) .nil))))) (.lit (.str [41])))) .nil)))⟩
/-- _law_text -/
def d52 : DefI := ⟨"_law_text", ["box", "door", "many", "places", "k"], 2, true, false, [0], (.cons (.if_ (.bin (.cmp .eq) (.var 1) (.lit (.int 0))) (.cons (.ret (.callIo 51 0 (.cons (.lit (.int 7)) .nil))) .nil) .nil) (.cons (.if_ (.bin (.cmp .eq) (.var 1) (.lit (.int 1))) (.cons (.ret (.bin .add (.bin .add (.callIo 51 0 (.cons (.lit (.int 4)) .nil)) (.lit (.str [32, 116, 111, 32]))) (.callIo 51 0 (.cons (.lit (.int 4)) .nil)))) .nil) .nil) (.cons (.asg (.nm 2) (.callIo 38 0 (.cons (.lit (.int 4)) .nil))) (.cons (.if_ (.bin (.cmp .eq) (.var 2) (.lit (.int 0))) (.cons (.ret (.lit (.str [45]))) .nil) .nil) (.cons (.if_ (.bin (.cmp .eq) (.var 1) (.lit (.int 2))) (.cons (.ret (.bin .join (.lit (.str [59, 32])) (.comp [("k", 4)] (.nm 4) (.range1 (.var 2)) (.bin .add (.bin .add (.callIo 51 0 (.cons (.lit (.int 3)) .nil)) (.lit (.str [32, 116, 111, 32]))) (.callIo 51 0 (.cons (.lit (.int 3)) .nil)))))) .nil) .nil) (.cons (.if_ (.bin (.cmp .eq) (.var 1) (.lit (.int 3))) (.cons (.ret (.bin .join (.lit (.str [32])) (.comp [("k", 4)] (.nm 4) (.range1 (.var 2)) (.un .str (.callIo 41 0 (.cons (.lst (.cons (.lit (.int 0)) (.cons (.lit (.int 7)) (.cons (.lit (.int 10)) (.cons (.lit (.int 999999)) (.cons (.lit (.int 1000000)) .nil)))))) .nil)))))) .nil) .nil) (.cons (.asg (.nm 3) (.lst (.cons (.lit (.str [45])) (.cons (.lit (.str [48])) (.cons (.lit (.str [49, 46, 48])) (.cons (.lit (.str [50, 46, 48, 46, 49, 49])) (.cons (.lit (.str [57, 57, 57, 57, 57, 57])) (.cons (.lit (.str [48, 46, 48, 48])) .nil)))))))) (.cons (.ret (.bin .join (.lit (.str [32])) (.comp [("k", 4)] (.nm 4) (.range1 (.var 2)) (.bin .add (.bin .add (.callIo 41 0 (.cons (.var 3) .nil)) (.lit (.str [58]))) (.un .str (.callIo 38 0 (.cons (.lit (.int 12)) .nil))))))) .nil))))))))⟩
/-- _law_right -/
def d53 : DefI := ⟨"_law_right", ["box", "turn", "door", "text", "step", "due", "heard", "sign", "calls", "k", "way"], 1, true, false, [0], (.cons (.for_ (.nm 1) (.range1 (.lit (.int 5))) (.cons (.asg (.nm 2) (.callIo 38 0 (.cons (.lit (.int 5)) .nil))) (.cons (.asg (.nm 3) (.callIo 52 0 (.cons (.var 2) .nil))) (.cons (.for_ (.nm 4) (.range1 (.callIo 38 0 (.cons (.lit (.int 4)) .nil))) (.cons (.asg2 false false 9 10 (.callIo 38 0 (.cons (.bin .add (.un .len (.var 3)) (.lit (.int 1))) .nil)) (.callIo 38 0 (.cons (.lit (.int 3)) .nil))) (.cons (.asg (.nm 7) (.callIo 41 0 (.cons (.lst (.cons (.lit (.str [97])) (.cons (.lit (.str [40])) (.cons (.lit (.str [41])) (.cons (.lit (.str [44])) (.cons (.lit (.str [32])) (.cons (.lit (.str [59])) (.cons (.lit (.str [45])) (.cons (.lit (.str [48])) (.cons (.lit (.str [49])) (.cons (.lit (.str [46])) (.cons (.lit (.str [58])) (.cons (.lit (.str [116])) (.cons (.lit (.str [65])) (.cons (.lit (.str [95])) .nil))))))))))))))) .nil))) (.cons (.asg (.nm 3) (.bin .add (.bin .add (.slH (.var 3) (.var 9)) (.ite (.bin (.cmp .lt) (.var 10) (.lit (.int 2))) (.var 7) (.lit (.str [])))) (.slL (.var 3) (.bin .add (.var 9) (.ite (.bin (.cmp .eq) (.var 10) (.lit (.int 0))) (.lit (.int 0)) (.lit (.int 1))))))) .nil)))) (.cons (.asg (.nm 5) (.call false false 50 (.cons (.var 2) (.cons (.var 3) .nil)))) (.cons (.asg (.nm 6) (.call false false 42 (.cons (.var 2) (.cons (.var 3) .nil)))) (.cons (.if_ (.not_ (.call false false 40 (.cons (.var 6) (.cons (.ite (.un .isNone (.var 5)) (.tup (.cons (.lit (.str [66, 97, 100, 84, 101, 120, 116])) (.cons (.var 3) .nil))) (.tup (.cons (.bin .idx (.var 5) (.lit (.int 0))) .nil))) .nil)))) (.cons (.ret (.lit (.bl false))) .nil) .nil) (.cons (.if_ (.and_ (.un .notNone (.var 5)) (.call false false 55 (.cons (.var 2) (.cons (.bin .idx (.var 5) (.lit (.int 0))) .nil)))) (.cons (.asg (.nm 8) (.lst (.cons (.fn 11) (.cons (.fn 13) (.cons (.fn 15) (.cons (.fn 17) (.cons (.fn 20) .nil))))))) (.cons (.if_ (.bin (.cmp .ne) (.callv (.bin .idx (.var 8) (.var 2)) (.cons (.bin .idx (.var 5) (.lit (.int 0))) .nil)) (.var 3)) (.cons (.ret (.lit (.bl false))) .nil) .nil) .nil)) .nil) .nil)))))))) (.cons (.ret (.lit (.bl true))) .nil))⟩
/-- _law_size -/
def d54 : DefI := ⟨"_law_size", ["term", "part"], 1, false, false, [], (.cons (.ret (.bin .add (.lit (.int 1)) (.un .sum (.comp [("part", 1)] (.nm 1) (.seq (.slL (.var 0) (.lit (.int 1)))) (.call false false 54 (.cons (.var 1) .nil)))))) .nil)⟩
/-- _law_good -/
def d55 : DefI := ⟨"_law_good", ["door", "own", "rule"], 2, false, false, [], (.cons (.if_ (.bin (.cmp .eq) (.var 0) (.lit (.int 0))) (.cons (.ret (.bin (.cmp .le) (.call false false 54 (.cons (.var 1) .nil)) (.lit (.int 12)))) .nil) .nil) (.cons (.if_ (.bin (.cmp .eq) (.var 0) (.lit (.int 1))) (.cons (.ret (.bin (.cmp .le) (.bin .max2 (.call false false 54 (.cons (.bin .idx (.var 1) (.lit (.int 0))) .nil)) (.call false false 54 (.cons (.bin .idx (.var 1) (.lit (.int 1))) .nil))) (.lit (.int 6)))) .nil) .nil) (.cons (.if_ (.bin (.cmp .eq) (.var 0) (.lit (.int 2))) (.cons (.ret (.and_ (.bin (.cmp .le) (.un .len (.var 1)) (.lit (.int 5))) (.bin (.cmp .eq) (.compIf [("rule", 2)] (.nm 2) (.seq (.var 1)) (.bin (.cmp .gt) (.bin .max2 (.call false false 54 (.cons (.bin .idx (.var 2) (.lit (.int 0))) .nil)) (.call false false 54 (.cons (.bin .idx (.var 2) (.lit (.int 1))) .nil))) (.lit (.int 6))) (.var 2)) (.lst .nil)))) .nil) .nil) (.cons (.ret (.bin (.cmp .le) (.un .len (.var 1)) (.ite (.bin (.cmp .eq) (.var 0) (.lit (.int 3))) (.lit (.int 5)) (.lit (.int 60))))) .nil))))⟩
/-- law -/
def d56 : DefI := ⟨"law", ["script"], 1, false, false, [], (.cons (.ret (.callT 53 (.call false true 37 (.cons (.call false false 39 (.cons (.var 0) (.cons (.lit (.int 1)) .nil))) (.cons (.lit (.int 0)) .nil))) .nil)) .nil)⟩
def prg : Pg := ⟨[d0, d1, d2, d3, d4, d5, d6, d7, d8, d9, d10, d11, d12, d13, d14, d15, d16, d17, d18, d19, d20, d21, d22, d23, d24, d25, d26, d27, d28, d29, d30, d31, d32, d33, d34, d35, d36, d37, d38, d39, d40, d41, d42, d43, d44, d45, d46, d47, d48, d49, d50, d51, d52, d53, d54, d55, d56], [("BadText", some "text")], [("SMALL", (.str [97, 98, 99, 100, 101, 102, 103, 104, 105, 106, 107, 108, 109, 110, 111, 112, 113, 114, 115, 116, 117, 118, 119, 120, 121, 122])), ("MOST_NAME", (.int 8)), ("MOST_PARTS", (.int 3)), ("MOST_RULES", (.int 5)), ("DIGITS", (.str [48, 49, 50, 51, 52, 53, 54, 55, 56, 57])), ("MOST_DIGITS", (.int 6)), ("BLANK", (.str [32])), ("TO", (.str [32, 116, 111, 32])), ("BETWEEN", (.str [59, 32])), ("NOTHING", (.str [45]))]⟩
def topS (i : Nat) : Stmt := PySem.Challenge.pw_countsandfloors_k49_texts_of_every_kind.main.body.getD i (.Pass ⟨0, 0, 0, 0⟩)
theorem chk0 : chkSs prg d0.own d0.N d0.io d0.fr d0.body (defScope (topS 4)) (defBody (topS 4)) = true := by decide +kernel
theorem chk1 : chkSs prg d1.own d1.N d1.io d1.fr d1.body (defScope (topS 5)) (defBody (topS 5)) = true := by decide +kernel
theorem chk2 : chkSs prg d2.own d2.N d2.io d2.fr d2.body (defScope (topS 6)) (defBody (topS 6)) = true := by decide +kernel
theorem chk3 : chkSs prg d3.own d3.N d3.io d3.fr d3.body (defScope (topS 7)) (defBody (topS 7)) = true := by decide +kernel
theorem chk4 : chkSs prg d4.own d4.N d4.io d4.fr d4.body (defScope (topS 8)) (defBody (topS 8)) = true := by decide +kernel
theorem chk5 : chkSs prg d5.own d5.N d5.io d5.fr d5.body (defScope (topS 13)) (defBody (topS 13)) = true := by decide +kernel
theorem chk6 : chkSs prg d6.own d6.N d6.io d6.fr d6.body (defScope (topS 14)) (defBody (topS 14)) = true := by decide +kernel
theorem chk7 : chkSs prg d7.own d7.N d7.io d7.fr d7.body (defScope (topS 17)) (defBody (topS 17)) = true := by decide +kernel
theorem chk8 : chkSs prg d8.own d8.N d8.io d8.fr d8.body (defScope (topS 18)) (defBody (topS 18)) = true := by decide +kernel
theorem chk9 : chkSs prg d9.own d9.N d9.io d9.fr d9.body (defScope (topS 19)) (defBody (topS 19)) = true := by decide +kernel
theorem chk10 : chkSs prg d10.own d10.N d10.io d10.fr d10.body (defScope (topS 27)) (defBody (topS 27)) = true := by decide +kernel
theorem chk11 : chkSs prg d11.own d11.N d11.io d11.fr d11.body (defScope (topS 28)) (defBody (topS 28)) = true := by decide +kernel
theorem chk12 : chkSs prg d12.own d12.N d12.io d12.fr d12.body (defScope (topS 29)) (defBody (topS 29)) = true := by decide +kernel
theorem chk13 : chkSs prg d13.own d13.N d13.io d13.fr d13.body (defScope (topS 30)) (defBody (topS 30)) = true := by decide +kernel
theorem chk14 : chkSs prg d14.own d14.N d14.io d14.fr d14.body (defScope (topS 31)) (defBody (topS 31)) = true := by decide +kernel
theorem chk15 : chkSs prg d15.own d15.N d15.io d15.fr d15.body (defScope (topS 32)) (defBody (topS 32)) = true := by decide +kernel
theorem chk16 : chkSs prg d16.own d16.N d16.io d16.fr d16.body (defScope (topS 33)) (defBody (topS 33)) = true := by decide +kernel
theorem chk17 : chkSs prg d17.own d17.N d17.io d17.fr d17.body (defScope (topS 34)) (defBody (topS 34)) = true := by decide +kernel
theorem chk18 : chkSs prg d18.own d18.N d18.io d18.fr d18.body (defScope (topS 35)) (defBody (topS 35)) = true := by decide +kernel
theorem chk19 : chkSs prg d19.own d19.N d19.io d19.fr d19.body (defScope (topS 36)) (defBody (topS 36)) = true := by decide +kernel
theorem chk20 : chkSs prg d20.own d20.N d20.io d20.fr d20.body (defScope (topS 37)) (defBody (topS 37)) = true := by decide +kernel
theorem chk21 : chkSs prg d21.own d21.N d21.io d21.fr d21.body (defScope (topS 38)) (defBody (topS 38)) = true := by decide +kernel
theorem chk22 : chkSs prg d22.own d22.N d22.io d22.fr d22.body (defScope (topS 39)) (defBody (topS 39)) = true := by decide +kernel
theorem chk23 : chkSs prg d23.own d23.N d23.io d23.fr d23.body (defScope (topS 40)) (defBody (topS 40)) = true := by decide +kernel
theorem chk24 : chkSs prg d24.own d24.N d24.io d24.fr d24.body (defScope (topS 41)) (defBody (topS 41)) = true := by decide +kernel
theorem chk25 : chkSs prg d25.own d25.N d25.io d25.fr d25.body (defScope (topS 42)) (defBody (topS 42)) = true := by decide +kernel
theorem chk26 : chkSs prg d26.own d26.N d26.io d26.fr d26.body (defScope (topS 43)) (defBody (topS 43)) = true := by decide +kernel
theorem chk27 : chkSs prg d27.own d27.N d27.io d27.fr d27.body (defScope (topS 44)) (defBody (topS 44)) = true := by decide +kernel
theorem chk28 : chkSs prg d28.own d28.N d28.io d28.fr d28.body (defScope (topS 45)) (defBody (topS 45)) = true := by decide +kernel
theorem chk29 : chkSs prg d29.own d29.N d29.io d29.fr d29.body (defScope (topS 46)) (defBody (topS 46)) = true := by decide +kernel
theorem chk30 : chkSs prg d30.own d30.N d30.io d30.fr d30.body (defScope (topS 47)) (defBody (topS 47)) = true := by decide +kernel
theorem chk31 : chkSs prg d31.own d31.N d31.io d31.fr d31.body (defScope (topS 48)) (defBody (topS 48)) = true := by decide +kernel
theorem chk32 : chkSs prg d32.own d32.N d32.io d32.fr d32.body (defScope (topS 49)) (defBody (topS 49)) = true := by decide +kernel
theorem chk33 : chkSs prg d33.own d33.N d33.io d33.fr d33.body (defScope (topS 50)) (defBody (topS 50)) = true := by decide +kernel
theorem chk34 : chkSs prg d34.own d34.N d34.io d34.fr d34.body (defScope (topS 51)) (defBody (topS 51)) = true := by decide +kernel
theorem chk35 : chkSs prg d35.own d35.N d35.io d35.fr d35.body (defScope (topS 52)) (defBody (topS 52)) = true := by decide +kernel
theorem chk36 : chkSs prg d36.own d36.N d36.io d36.fr d36.body (defScope (topS 53)) (defBody (topS 53)) = true := by decide +kernel
theorem chk37 : chkSs prg d37.own d37.N d37.io d37.fr d37.body (defScope (topS 55)) (defBody (topS 55)) = true := by decide +kernel
theorem chk38 : chkSs prg d38.own d38.N d38.io d38.fr d38.body (defScope (topS 56)) (defBody (topS 56)) = true := by decide +kernel
theorem chk39 : chkSs prg d39.own d39.N d39.io d39.fr d39.body (defScope (topS 57)) (defBody (topS 57)) = true := by decide +kernel
theorem chk40 : chkSs prg d40.own d40.N d40.io d40.fr d40.body (defScope (topS 58)) (defBody (topS 58)) = true := by decide +kernel
theorem chk41 : chkSs prg d41.own d41.N d41.io d41.fr d41.body (defScope (topS 59)) (defBody (topS 59)) = true := by decide +kernel
theorem chk42 : chkSs prg d42.own d42.N d42.io d42.fr d42.body (defScope (topS 61)) (defBody (topS 61)) = true := by decide +kernel
theorem chk43 : chkSs prg d43.own d43.N d43.io d43.fr d43.body (defScope (topS 62)) (defBody (topS 62)) = true := by decide +kernel
theorem chk44 : chkSs prg d44.own d44.N d44.io d44.fr d44.body (defScope (topS 63)) (defBody (topS 63)) = true := by decide +kernel
theorem chk45 : chkSs prg d45.own d45.N d45.io d45.fr d45.body (defScope (topS 64)) (defBody (topS 64)) = true := by decide +kernel
theorem chk46 : chkSs prg d46.own d46.N d46.io d46.fr d46.body (defScope (topS 65)) (defBody (topS 65)) = true := by decide +kernel
theorem chk47 : chkSs prg d47.own d47.N d47.io d47.fr d47.body (defScope (topS 66)) (defBody (topS 66)) = true := by decide +kernel
theorem chk48 : chkSs prg d48.own d48.N d48.io d48.fr d48.body (defScope (topS 67)) (defBody (topS 67)) = true := by decide +kernel
theorem chk49 : chkSs prg d49.own d49.N d49.io d49.fr d49.body (defScope (topS 68)) (defBody (topS 68)) = true := by decide +kernel
theorem chk50 : chkSs prg d50.own d50.N d50.io d50.fr d50.body (defScope (topS 69)) (defBody (topS 69)) = true := by decide +kernel
theorem chk51 : chkSs prg d51.own d51.N d51.io d51.fr d51.body (defScope (topS 70)) (defBody (topS 70)) = true := by decide +kernel
theorem chk52 : chkSs prg d52.own d52.N d52.io d52.fr d52.body (defScope (topS 71)) (defBody (topS 71)) = true := by decide +kernel
theorem chk53 : chkSs prg d53.own d53.N d53.io d53.fr d53.body (defScope (topS 72)) (defBody (topS 72)) = true := by decide +kernel
theorem chk54 : chkSs prg d54.own d54.N d54.io d54.fr d54.body (defScope (topS 73)) (defBody (topS 73)) = true := by decide +kernel
theorem chk55 : chkSs prg d55.own d55.N d55.io d55.fr d55.body (defScope (topS 74)) (defBody (topS 74)) = true := by decide +kernel
theorem chk56 : chkSs prg d56.own d56.N d56.io d56.fr d56.body (defScope (topS 75)) (defBody (topS 75)) = true := by decide +kernel

def wf0 : Nat := 1000000
/-- the ties of a def -/
def Tie (K : PySem.W.Frag) (mg : Str → Option Value) (a : Addr) (di : DefI) (st : Stmt) : Prop := ∃ fd, mg di.name = some (.ref a) ∧ PySem.W.keepIn K (.ref a) = true ∧ Fun K di.name di.name st a fd ∧ FnScope di.N (di.N.take di.np) (defScope st) ∧ Binds K fd (di.N.take di.np) []
theorem sc0 : FnScope d0.N (d0.N.take d0.np) (defScope (topS 4)) := ⟨rfl, rfl, rfl, by decide +kernel, rfl, by decide +kernel, by decide +kernel⟩
theorem tie0 {K : PySem.W.Frag} {mg : Str → Option Value} {h : Heap} {f : Addr} {od an : Option Addr} {sl : Array (Option Value)} {oc kV dc pm cd ct : Value} (X : K.In h) (G : h.Ns mainGlobals mg)
    (a : PySem.W.nsIn K mainGlobals "is_number" = some (some (.ref f))) (l : K.lookup f = some ⟨oc, od, .func (PySem.W.fnOf "is_number" "is_number" (defArgs (topS 4)) (defBody (topS 4)) (defScope (topS 4)) .none kV dc pm an cd ct), sl⟩) (c : PySem.W.codeIn K cd "is_number" = true) (k : PySem.W.keepIn K (.ref f) = true) : Tie K mg f d0 (topS 4) :=
  ⟨_, PySem.W.mg_of X G a, k, fun_mk (st := topS 4) l c k, sc0, (fun_mk (st := topS 4) l c k).binds fun _ _ _ _ _ _ us hl => match us, hl with | [_], _ => rfl⟩
theorem sc1 : FnScope d1.N (d1.N.take d1.np) (defScope (topS 5)) := ⟨rfl, rfl, rfl, by decide +kernel, rfl, by decide +kernel, by decide +kernel⟩
theorem tie1 {K : PySem.W.Frag} {mg : Str → Option Value} {h : Heap} {f : Addr} {od an : Option Addr} {sl : Array (Option Value)} {oc kV dc pm cd ct : Value} (X : K.In h) (G : h.Ns mainGlobals mg)
    (a : PySem.W.nsIn K mainGlobals "is_from" = some (some (.ref f))) (l : K.lookup f = some ⟨oc, od, .func (PySem.W.fnOf "is_from" "is_from" (defArgs (topS 5)) (defBody (topS 5)) (defScope (topS 5)) .none kV dc pm an cd ct), sl⟩) (c : PySem.W.codeIn K cd "is_from" = true) (k : PySem.W.keepIn K (.ref f) = true) : Tie K mg f d1 (topS 5) :=
  ⟨_, PySem.W.mg_of X G a, k, fun_mk (st := topS 5) l c k, sc1, (fun_mk (st := topS 5) l c k).binds fun _ _ _ _ _ _ us hl => match us, hl with | [_, _], _ => rfl⟩
theorem sc2 : FnScope d2.N (d2.N.take d2.np) (defScope (topS 6)) := ⟨rfl, rfl, rfl, by decide +kernel, rfl, by decide +kernel, by decide +kernel⟩
theorem tie2 {K : PySem.W.Frag} {mg : Str → Option Value} {h : Heap} {f : Addr} {od an : Option Addr} {sl : Array (Option Value)} {oc kV dc pm cd ct : Value} (X : K.In h) (G : h.Ns mainGlobals mg)
    (a : PySem.W.nsIn K mainGlobals "tuple_of" = some (some (.ref f))) (l : K.lookup f = some ⟨oc, od, .func (PySem.W.fnOf "tuple_of" "tuple_of" (defArgs (topS 6)) (defBody (topS 6)) (defScope (topS 6)) .none kV dc pm an cd ct), sl⟩) (c : PySem.W.codeIn K cd "tuple_of" = true) (k : PySem.W.keepIn K (.ref f) = true) : Tie K mg f d2 (topS 6) :=
  ⟨_, PySem.W.mg_of X G a, k, fun_mk (st := topS 6) l c k, sc2, (fun_mk (st := topS 6) l c k).binds fun _ _ _ _ _ _ us hl => match us, hl with | [_], _ => rfl⟩
theorem sc3 : FnScope d3.N (d3.N.take d3.np) (defScope (topS 7)) := ⟨rfl, rfl, rfl, by decide +kernel, rfl, by decide +kernel, by decide +kernel⟩
theorem tie3 {K : PySem.W.Frag} {mg : Str → Option Value} {h : Heap} {f : Addr} {od an : Option Addr} {sl : Array (Option Value)} {oc kV dc pm cd ct : Value} (X : K.In h) (G : h.Ns mainGlobals mg)
    (a : PySem.W.nsIn K mainGlobals "is_tuple_of" = some (some (.ref f))) (l : K.lookup f = some ⟨oc, od, .func (PySem.W.fnOf "is_tuple_of" "is_tuple_of" (defArgs (topS 7)) (defBody (topS 7)) (defScope (topS 7)) .none kV dc pm an cd ct), sl⟩) (c : PySem.W.codeIn K cd "is_tuple_of" = true) (k : PySem.W.keepIn K (.ref f) = true) : Tie K mg f d3 (topS 7) :=
  ⟨_, PySem.W.mg_of X G a, k, fun_mk (st := topS 7) l c k, sc3, (fun_mk (st := topS 7) l c k).binds fun _ _ _ _ _ _ us hl => match us, hl with | [_, _], _ => rfl⟩
theorem sc4 : FnScope d4.N (d4.N.take d4.np) (defScope (topS 8)) := ⟨rfl, rfl, rfl, by decide +kernel, rfl, by decide +kernel, by decide +kernel⟩
theorem tie4 {K : PySem.W.Frag} {mg : Str → Option Value} {h : Heap} {f : Addr} {od an : Option Addr} {sl : Array (Option Value)} {oc kV dc pm cd ct : Value} (X : K.In h) (G : h.Ns mainGlobals mg)
    (a : PySem.W.nsIn K mainGlobals "sure" = some (some (.ref f))) (l : K.lookup f = some ⟨oc, od, .func (PySem.W.fnOf "sure" "sure" (defArgs (topS 8)) (defBody (topS 8)) (defScope (topS 8)) .none kV dc pm an cd ct), sl⟩) (c : PySem.W.codeIn K cd "sure" = true) (k : PySem.W.keepIn K (.ref f) = true) : Tie K mg f d4 (topS 8) :=
  ⟨_, PySem.W.mg_of X G a, k, fun_mk (st := topS 8) l c k, sc4, (fun_mk (st := topS 8) l c k).binds fun _ _ _ _ _ _ us hl => match us, hl with | [_], _ => rfl⟩
theorem sc5 : FnScope d5.N (d5.N.take d5.np) (defScope (topS 13)) := ⟨rfl, rfl, rfl, by decide +kernel, rfl, by decide +kernel, by decide +kernel⟩
theorem tie5 {K : PySem.W.Frag} {mg : Str → Option Value} {h : Heap} {f : Addr} {od an : Option Addr} {sl : Array (Option Value)} {oc kV dc pm cd ct : Value} (X : K.In h) (G : h.Ns mainGlobals mg)
    (a : PySem.W.nsIn K mainGlobals "is_name" = some (some (.ref f))) (l : K.lookup f = some ⟨oc, od, .func (PySem.W.fnOf "is_name" "is_name" (defArgs (topS 13)) (defBody (topS 13)) (defScope (topS 13)) .none kV dc pm an cd ct), sl⟩) (c : PySem.W.codeIn K cd "is_name" = true) (k : PySem.W.keepIn K (.ref f) = true) : Tie K mg f d5 (topS 13) :=
  ⟨_, PySem.W.mg_of X G a, k, fun_mk (st := topS 13) l c k, sc5, (fun_mk (st := topS 13) l c k).binds fun _ _ _ _ _ _ us hl => match us, hl with | [_], _ => rfl⟩
theorem sc6 : FnScope d6.N (d6.N.take d6.np) (defScope (topS 14)) := ⟨rfl, rfl, rfl, by decide +kernel, rfl, by decide +kernel, by decide +kernel⟩
theorem tie6 {K : PySem.W.Frag} {mg : Str → Option Value} {h : Heap} {f : Addr} {od an : Option Addr} {sl : Array (Option Value)} {oc kV dc pm cd ct : Value} (X : K.In h) (G : h.Ns mainGlobals mg)
    (a : PySem.W.nsIn K mainGlobals "is_term" = some (some (.ref f))) (l : K.lookup f = some ⟨oc, od, .func (PySem.W.fnOf "is_term" "is_term" (defArgs (topS 14)) (defBody (topS 14)) (defScope (topS 14)) .none kV dc pm an cd ct), sl⟩) (c : PySem.W.codeIn K cd "is_term" = true) (k : PySem.W.keepIn K (.ref f) = true) : Tie K mg f d6 (topS 14) :=
  ⟨_, PySem.W.mg_of X G a, k, fun_mk (st := topS 14) l c k, sc6, (fun_mk (st := topS 14) l c k).binds fun _ _ _ _ _ _ us hl => match us, hl with | [_], _ => rfl⟩
theorem sc7 : FnScope d7.N (d7.N.take d7.np) (defScope (topS 17)) := ⟨rfl, rfl, rfl, by decide +kernel, rfl, by decide +kernel, by decide +kernel⟩
theorem tie7 {K : PySem.W.Frag} {mg : Str → Option Value} {h : Heap} {f : Addr} {od an : Option Addr} {sl : Array (Option Value)} {oc kV dc pm cd ct : Value} (X : K.In h) (G : h.Ns mainGlobals mg)
    (a : PySem.W.nsIn K mainGlobals "is_rule" = some (some (.ref f))) (l : K.lookup f = some ⟨oc, od, .func (PySem.W.fnOf "is_rule" "is_rule" (defArgs (topS 17)) (defBody (topS 17)) (defScope (topS 17)) .none kV dc pm an cd ct), sl⟩) (c : PySem.W.codeIn K cd "is_rule" = true) (k : PySem.W.keepIn K (.ref f) = true) : Tie K mg f d7 (topS 17) :=
  ⟨_, PySem.W.mg_of X G a, k, fun_mk (st := topS 17) l c k, sc7, (fun_mk (st := topS 17) l c k).binds fun _ _ _ _ _ _ us hl => match us, hl with | [_], _ => rfl⟩
theorem sc8 : FnScope d8.N (d8.N.take d8.np) (defScope (topS 18)) := ⟨rfl, rfl, rfl, by decide +kernel, rfl, by decide +kernel, by decide +kernel⟩
theorem tie8 {K : PySem.W.Frag} {mg : Str → Option Value} {h : Heap} {f : Addr} {od an : Option Addr} {sl : Array (Option Value)} {oc kV dc pm cd ct : Value} (X : K.In h) (G : h.Ns mainGlobals mg)
    (a : PySem.W.nsIn K mainGlobals "is_book" = some (some (.ref f))) (l : K.lookup f = some ⟨oc, od, .func (PySem.W.fnOf "is_book" "is_book" (defArgs (topS 18)) (defBody (topS 18)) (defScope (topS 18)) .none kV dc pm an cd ct), sl⟩) (c : PySem.W.codeIn K cd "is_book" = true) (k : PySem.W.keepIn K (.ref f) = true) : Tie K mg f d8 (topS 18) :=
  ⟨_, PySem.W.mg_of X G a, k, fun_mk (st := topS 18) l c k, sc8, (fun_mk (st := topS 18) l c k).binds fun _ _ _ _ _ _ us hl => match us, hl with | [_], _ => rfl⟩
theorem sc9 : FnScope d9.N (d9.N.take d9.np) (defScope (topS 19)) := ⟨rfl, rfl, rfl, by decide +kernel, rfl, by decide +kernel, by decide +kernel⟩
theorem tie9 {K : PySem.W.Frag} {mg : Str → Option Value} {h : Heap} {f : Addr} {od an : Option Addr} {sl : Array (Option Value)} {oc kV dc pm cd ct : Value} (X : K.In h) (G : h.Ns mainGlobals mg)
    (a : PySem.W.nsIn K mainGlobals "is_pair" = some (some (.ref f))) (l : K.lookup f = some ⟨oc, od, .func (PySem.W.fnOf "is_pair" "is_pair" (defArgs (topS 19)) (defBody (topS 19)) (defScope (topS 19)) .none kV dc pm an cd ct), sl⟩) (c : PySem.W.codeIn K cd "is_pair" = true) (k : PySem.W.keepIn K (.ref f) = true) : Tie K mg f d9 (topS 19) :=
  ⟨_, PySem.W.mg_of X G a, k, fun_mk (st := topS 19) l c k, sc9, (fun_mk (st := topS 19) l c k).binds fun _ _ _ _ _ _ us hl => match us, hl with | [_], _ => rfl⟩
theorem sc10 : FnScope d10.N (d10.N.take d10.np) (defScope (topS 27)) := ⟨rfl, rfl, rfl, by decide +kernel, rfl, by decide +kernel, by decide +kernel⟩
theorem tie10 {K : PySem.W.Frag} {mg : Str → Option Value} {h : Heap} {f : Addr} {od an : Option Addr} {sl : Array (Option Value)} {oc kV dc pm cd ct : Value} (X : K.In h) (G : h.Ns mainGlobals mg)
    (a : PySem.W.nsIn K mainGlobals "made_text" = some (some (.ref f))) (l : K.lookup f = some ⟨oc, od, .func (PySem.W.fnOf "made_text" "made_text" (defArgs (topS 27)) (defBody (topS 27)) (defScope (topS 27)) .none kV dc pm an cd ct), sl⟩) (c : PySem.W.codeIn K cd "made_text" = true) (k : PySem.W.keepIn K (.ref f) = true) : Tie K mg f d10 (topS 27) :=
  ⟨_, PySem.W.mg_of X G a, k, fun_mk (st := topS 27) l c k, sc10, (fun_mk (st := topS 27) l c k).binds fun _ _ _ _ _ _ us hl => match us, hl with | [_], _ => rfl⟩
theorem sc11 : FnScope d11.N (d11.N.take d11.np) (defScope (topS 28)) := ⟨rfl, rfl, rfl, by decide +kernel, rfl, by decide +kernel, by decide +kernel⟩
theorem tie11 {K : PySem.W.Frag} {mg : Str → Option Value} {h : Heap} {f : Addr} {od an : Option Addr} {sl : Array (Option Value)} {oc kV dc pm cd ct : Value} (X : K.In h) (G : h.Ns mainGlobals mg)
    (a : PySem.W.nsIn K mainGlobals "term_text" = some (some (.ref f))) (l : K.lookup f = some ⟨oc, od, .func (PySem.W.fnOf "term_text" "term_text" (defArgs (topS 28)) (defBody (topS 28)) (defScope (topS 28)) .none kV dc pm an cd ct), sl⟩) (c : PySem.W.codeIn K cd "term_text" = true) (k : PySem.W.keepIn K (.ref f) = true) : Tie K mg f d11 (topS 28) :=
  ⟨_, PySem.W.mg_of X G a, k, fun_mk (st := topS 28) l c k, sc11, (fun_mk (st := topS 28) l c k).binds fun _ _ _ _ _ _ us hl => match us, hl with | [_], _ => rfl⟩
theorem sc12 : FnScope d12.N (d12.N.take d12.np) (defScope (topS 29)) := ⟨rfl, rfl, rfl, by decide +kernel, rfl, by decide +kernel, by decide +kernel⟩
theorem tie12 {K : PySem.W.Frag} {mg : Str → Option Value} {h : Heap} {f : Addr} {od an : Option Addr} {sl : Array (Option Value)} {oc kV dc pm cd ct : Value} (X : K.In h) (G : h.Ns mainGlobals mg)
    (a : PySem.W.nsIn K mainGlobals "made_rule_text" = some (some (.ref f))) (l : K.lookup f = some ⟨oc, od, .func (PySem.W.fnOf "made_rule_text" "made_rule_text" (defArgs (topS 29)) (defBody (topS 29)) (defScope (topS 29)) .none kV dc pm an cd ct), sl⟩) (c : PySem.W.codeIn K cd "made_rule_text" = true) (k : PySem.W.keepIn K (.ref f) = true) : Tie K mg f d12 (topS 29) :=
  ⟨_, PySem.W.mg_of X G a, k, fun_mk (st := topS 29) l c k, sc12, (fun_mk (st := topS 29) l c k).binds fun _ _ _ _ _ _ us hl => match us, hl with | [_], _ => rfl⟩
theorem sc13 : FnScope d13.N (d13.N.take d13.np) (defScope (topS 30)) := ⟨rfl, rfl, rfl, by decide +kernel, rfl, by decide +kernel, by decide +kernel⟩
theorem tie13 {K : PySem.W.Frag} {mg : Str → Option Value} {h : Heap} {f : Addr} {od an : Option Addr} {sl : Array (Option Value)} {oc kV dc pm cd ct : Value} (X : K.In h) (G : h.Ns mainGlobals mg)
    (a : PySem.W.nsIn K mainGlobals "rule_text" = some (some (.ref f))) (l : K.lookup f = some ⟨oc, od, .func (PySem.W.fnOf "rule_text" "rule_text" (defArgs (topS 30)) (defBody (topS 30)) (defScope (topS 30)) .none kV dc pm an cd ct), sl⟩) (c : PySem.W.codeIn K cd "rule_text" = true) (k : PySem.W.keepIn K (.ref f) = true) : Tie K mg f d13 (topS 30) :=
  ⟨_, PySem.W.mg_of X G a, k, fun_mk (st := topS 30) l c k, sc13, (fun_mk (st := topS 30) l c k).binds fun _ _ _ _ _ _ us hl => match us, hl with | [_], _ => rfl⟩
theorem sc14 : FnScope d14.N (d14.N.take d14.np) (defScope (topS 31)) := ⟨rfl, rfl, rfl, by decide +kernel, rfl, by decide +kernel, by decide +kernel⟩
theorem tie14 {K : PySem.W.Frag} {mg : Str → Option Value} {h : Heap} {f : Addr} {od an : Option Addr} {sl : Array (Option Value)} {oc kV dc pm cd ct : Value} (X : K.In h) (G : h.Ns mainGlobals mg)
    (a : PySem.W.nsIn K mainGlobals "made_book_text" = some (some (.ref f))) (l : K.lookup f = some ⟨oc, od, .func (PySem.W.fnOf "made_book_text" "made_book_text" (defArgs (topS 31)) (defBody (topS 31)) (defScope (topS 31)) .none kV dc pm an cd ct), sl⟩) (c : PySem.W.codeIn K cd "made_book_text" = true) (k : PySem.W.keepIn K (.ref f) = true) : Tie K mg f d14 (topS 31) :=
  ⟨_, PySem.W.mg_of X G a, k, fun_mk (st := topS 31) l c k, sc14, (fun_mk (st := topS 31) l c k).binds fun _ _ _ _ _ _ us hl => match us, hl with | [_], _ => rfl⟩
theorem sc15 : FnScope d15.N (d15.N.take d15.np) (defScope (topS 32)) := ⟨rfl, rfl, rfl, by decide +kernel, rfl, by decide +kernel, by decide +kernel⟩
theorem tie15 {K : PySem.W.Frag} {mg : Str → Option Value} {h : Heap} {f : Addr} {od an : Option Addr} {sl : Array (Option Value)} {oc kV dc pm cd ct : Value} (X : K.In h) (G : h.Ns mainGlobals mg)
    (a : PySem.W.nsIn K mainGlobals "book_text" = some (some (.ref f))) (l : K.lookup f = some ⟨oc, od, .func (PySem.W.fnOf "book_text" "book_text" (defArgs (topS 32)) (defBody (topS 32)) (defScope (topS 32)) .none kV dc pm an cd ct), sl⟩) (c : PySem.W.codeIn K cd "book_text" = true) (k : PySem.W.keepIn K (.ref f) = true) : Tie K mg f d15 (topS 32) :=
  ⟨_, PySem.W.mg_of X G a, k, fun_mk (st := topS 32) l c k, sc15, (fun_mk (st := topS 32) l c k).binds fun _ _ _ _ _ _ us hl => match us, hl with | [_], _ => rfl⟩
theorem sc16 : FnScope d16.N (d16.N.take d16.np) (defScope (topS 33)) := ⟨rfl, rfl, rfl, by decide +kernel, rfl, by decide +kernel, by decide +kernel⟩
theorem tie16 {K : PySem.W.Frag} {mg : Str → Option Value} {h : Heap} {f : Addr} {od an : Option Addr} {sl : Array (Option Value)} {oc kV dc pm cd ct : Value} (X : K.In h) (G : h.Ns mainGlobals mg)
    (a : PySem.W.nsIn K mainGlobals "words_of" = some (some (.ref f))) (l : K.lookup f = some ⟨oc, od, .func (PySem.W.fnOf "words_of" "words_of" (defArgs (topS 33)) (defBody (topS 33)) (defScope (topS 33)) .none kV dc pm an cd ct), sl⟩) (c : PySem.W.codeIn K cd "words_of" = true) (k : PySem.W.keepIn K (.ref f) = true) : Tie K mg f d16 (topS 33) :=
  ⟨_, PySem.W.mg_of X G a, k, fun_mk (st := topS 33) l c k, sc16, (fun_mk (st := topS 33) l c k).binds fun _ _ _ _ _ _ us hl => match us, hl with | [_], _ => rfl⟩
theorem sc17 : FnScope d17.N (d17.N.take d17.np) (defScope (topS 34)) := ⟨rfl, rfl, rfl, by decide +kernel, rfl, by decide +kernel, by decide +kernel⟩
theorem tie17 {K : PySem.W.Frag} {mg : Str → Option Value} {h : Heap} {f : Addr} {od an : Option Addr} {sl : Array (Option Value)} {oc kV dc pm cd ct : Value} (X : K.In h) (G : h.Ns mainGlobals mg)
    (a : PySem.W.nsIn K mainGlobals "row_text" = some (some (.ref f))) (l : K.lookup f = some ⟨oc, od, .func (PySem.W.fnOf "row_text" "row_text" (defArgs (topS 34)) (defBody (topS 34)) (defScope (topS 34)) .none kV dc pm an cd ct), sl⟩) (c : PySem.W.codeIn K cd "row_text" = true) (k : PySem.W.keepIn K (.ref f) = true) : Tie K mg f d17 (topS 34) :=
  ⟨_, PySem.W.mg_of X G a, k, fun_mk (st := topS 34) l c k, sc17, (fun_mk (st := topS 34) l c k).binds fun _ _ _ _ _ _ us hl => match us, hl with | [_], _ => rfl⟩
theorem sc18 : FnScope d18.N (d18.N.take d18.np) (defScope (topS 35)) := ⟨rfl, rfl, rfl, by decide +kernel, rfl, by decide +kernel, by decide +kernel⟩
theorem tie18 {K : PySem.W.Frag} {mg : Str → Option Value} {h : Heap} {f : Addr} {od an : Option Addr} {sl : Array (Option Value)} {oc kV dc pm cd ct : Value} (X : K.In h) (G : h.Ns mainGlobals mg)
    (a : PySem.W.nsIn K mainGlobals "step_text" = some (some (.ref f))) (l : K.lookup f = some ⟨oc, od, .func (PySem.W.fnOf "step_text" "step_text" (defArgs (topS 35)) (defBody (topS 35)) (defScope (topS 35)) .none kV dc pm an cd ct), sl⟩) (c : PySem.W.codeIn K cd "step_text" = true) (k : PySem.W.keepIn K (.ref f) = true) : Tie K mg f d18 (topS 35) :=
  ⟨_, PySem.W.mg_of X G a, k, fun_mk (st := topS 35) l c k, sc18, (fun_mk (st := topS 35) l c k).binds fun _ _ _ _ _ _ us hl => match us, hl with | [_], _ => rfl⟩
theorem sc19 : FnScope d19.N (d19.N.take d19.np) (defScope (topS 36)) := ⟨rfl, rfl, rfl, by decide +kernel, rfl, by decide +kernel, by decide +kernel⟩
theorem tie19 {K : PySem.W.Frag} {mg : Str → Option Value} {h : Heap} {f : Addr} {od an : Option Addr} {sl : Array (Option Value)} {oc kV dc pm cd ct : Value} (X : K.In h) (G : h.Ns mainGlobals mg)
    (a : PySem.W.nsIn K mainGlobals "made_run_text" = some (some (.ref f))) (l : K.lookup f = some ⟨oc, od, .func (PySem.W.fnOf "made_run_text" "made_run_text" (defArgs (topS 36)) (defBody (topS 36)) (defScope (topS 36)) .none kV dc pm an cd ct), sl⟩) (c : PySem.W.codeIn K cd "made_run_text" = true) (k : PySem.W.keepIn K (.ref f) = true) : Tie K mg f d19 (topS 36) :=
  ⟨_, PySem.W.mg_of X G a, k, fun_mk (st := topS 36) l c k, sc19, (fun_mk (st := topS 36) l c k).binds fun _ _ _ _ _ _ us hl => match us, hl with | [_], _ => rfl⟩
theorem sc20 : FnScope d20.N (d20.N.take d20.np) (defScope (topS 37)) := ⟨rfl, rfl, rfl, by decide +kernel, rfl, by decide +kernel, by decide +kernel⟩
theorem tie20 {K : PySem.W.Frag} {mg : Str → Option Value} {h : Heap} {f : Addr} {od an : Option Addr} {sl : Array (Option Value)} {oc kV dc pm cd ct : Value} (X : K.In h) (G : h.Ns mainGlobals mg)
    (a : PySem.W.nsIn K mainGlobals "run_text" = some (some (.ref f))) (l : K.lookup f = some ⟨oc, od, .func (PySem.W.fnOf "run_text" "run_text" (defArgs (topS 37)) (defBody (topS 37)) (defScope (topS 37)) .none kV dc pm an cd ct), sl⟩) (c : PySem.W.codeIn K cd "run_text" = true) (k : PySem.W.keepIn K (.ref f) = true) : Tie K mg f d20 (topS 37) :=
  ⟨_, PySem.W.mg_of X G a, k, fun_mk (st := topS 37) l c k, sc20, (fun_mk (st := topS 37) l c k).binds fun _ _ _ _ _ _ us hl => match us, hl with | [_], _ => rfl⟩
theorem sc21 : FnScope d21.N (d21.N.take d21.np) (defScope (topS 38)) := ⟨rfl, rfl, rfl, by decide +kernel, rfl, by decide +kernel, by decide +kernel⟩
theorem tie21 {K : PySem.W.Frag} {mg : Str → Option Value} {h : Heap} {f : Addr} {od an : Option Addr} {sl : Array (Option Value)} {oc kV dc pm cd ct : Value} (X : K.In h) (G : h.Ns mainGlobals mg)
    (a : PySem.W.nsIn K mainGlobals "number_in" = some (some (.ref f))) (l : K.lookup f = some ⟨oc, od, .func (PySem.W.fnOf "number_in" "number_in" (defArgs (topS 38)) (defBody (topS 38)) (defScope (topS 38)) .none kV dc pm an cd ct), sl⟩) (c : PySem.W.codeIn K cd "number_in" = true) (k : PySem.W.keepIn K (.ref f) = true) : Tie K mg f d21 (topS 38) :=
  ⟨_, PySem.W.mg_of X G a, k, fun_mk (st := topS 38) l c k, sc21, (fun_mk (st := topS 38) l c k).binds fun _ _ _ _ _ _ us hl => match us, hl with | [_], _ => rfl⟩
theorem sc22 : FnScope d22.N (d22.N.take d22.np) (defScope (topS 39)) := ⟨rfl, rfl, rfl, by decide +kernel, rfl, by decide +kernel, by decide +kernel⟩
theorem tie22 {K : PySem.W.Frag} {mg : Str → Option Value} {h : Heap} {f : Addr} {od an : Option Addr} {sl : Array (Option Value)} {oc kV dc pm cd ct : Value} (X : K.In h) (G : h.Ns mainGlobals mg)
    (a : PySem.W.nsIn K mainGlobals "name_end" = some (some (.ref f))) (l : K.lookup f = some ⟨oc, od, .func (PySem.W.fnOf "name_end" "name_end" (defArgs (topS 39)) (defBody (topS 39)) (defScope (topS 39)) .none kV dc pm an cd ct), sl⟩) (c : PySem.W.codeIn K cd "name_end" = true) (k : PySem.W.keepIn K (.ref f) = true) : Tie K mg f d22 (topS 39) :=
  ⟨_, PySem.W.mg_of X G a, k, fun_mk (st := topS 39) l c k, sc22, (fun_mk (st := topS 39) l c k).binds fun _ _ _ _ _ _ us hl => match us, hl with | [_, _], _ => rfl⟩
theorem sc23 : FnScope d23.N (d23.N.take d23.np) (defScope (topS 40)) := ⟨rfl, rfl, rfl, by decide +kernel, rfl, by decide +kernel, by decide +kernel⟩
theorem tie23 {K : PySem.W.Frag} {mg : Str → Option Value} {h : Heap} {f : Addr} {od an : Option Addr} {sl : Array (Option Value)} {oc kV dc pm cd ct : Value} (X : K.In h) (G : h.Ns mainGlobals mg)
    (a : PySem.W.nsIn K mainGlobals "read_term" = some (some (.ref f))) (l : K.lookup f = some ⟨oc, od, .func (PySem.W.fnOf "read_term" "read_term" (defArgs (topS 40)) (defBody (topS 40)) (defScope (topS 40)) .none kV dc pm an cd ct), sl⟩) (c : PySem.W.codeIn K cd "read_term" = true) (k : PySem.W.keepIn K (.ref f) = true) : Tie K mg f d23 (topS 40) :=
  ⟨_, PySem.W.mg_of X G a, k, fun_mk (st := topS 40) l c k, sc23, (fun_mk (st := topS 40) l c k).binds fun _ _ _ _ _ _ us hl => match us, hl with | [_, _], _ => rfl⟩
theorem sc24 : FnScope d24.N (d24.N.take d24.np) (defScope (topS 41)) := ⟨rfl, rfl, rfl, by decide +kernel, rfl, by decide +kernel, by decide +kernel⟩
theorem tie24 {K : PySem.W.Frag} {mg : Str → Option Value} {h : Heap} {f : Addr} {od an : Option Addr} {sl : Array (Option Value)} {oc kV dc pm cd ct : Value} (X : K.In h) (G : h.Ns mainGlobals mg)
    (a : PySem.W.nsIn K mainGlobals "whole_term" = some (some (.ref f))) (l : K.lookup f = some ⟨oc, od, .func (PySem.W.fnOf "whole_term" "whole_term" (defArgs (topS 41)) (defBody (topS 41)) (defScope (topS 41)) .none kV dc pm an cd ct), sl⟩) (c : PySem.W.codeIn K cd "whole_term" = true) (k : PySem.W.keepIn K (.ref f) = true) : Tie K mg f d24 (topS 41) :=
  ⟨_, PySem.W.mg_of X G a, k, fun_mk (st := topS 41) l c k, sc24, (fun_mk (st := topS 41) l c k).binds fun _ _ _ _ _ _ us hl => match us, hl with | [_], _ => rfl⟩
theorem sc25 : FnScope d25.N (d25.N.take d25.np) (defScope (topS 42)) := ⟨rfl, rfl, rfl, by decide +kernel, rfl, by decide +kernel, by decide +kernel⟩
theorem tie25 {K : PySem.W.Frag} {mg : Str → Option Value} {h : Heap} {f : Addr} {od an : Option Addr} {sl : Array (Option Value)} {oc kV dc pm cd ct : Value} (X : K.In h) (G : h.Ns mainGlobals mg)
    (a : PySem.W.nsIn K mainGlobals "whole_rule" = some (some (.ref f))) (l : K.lookup f = some ⟨oc, od, .func (PySem.W.fnOf "whole_rule" "whole_rule" (defArgs (topS 42)) (defBody (topS 42)) (defScope (topS 42)) .none kV dc pm an cd ct), sl⟩) (c : PySem.W.codeIn K cd "whole_rule" = true) (k : PySem.W.keepIn K (.ref f) = true) : Tie K mg f d25 (topS 42) :=
  ⟨_, PySem.W.mg_of X G a, k, fun_mk (st := topS 42) l c k, sc25, (fun_mk (st := topS 42) l c k).binds fun _ _ _ _ _ _ us hl => match us, hl with | [_], _ => rfl⟩
theorem sc26 : FnScope d26.N (d26.N.take d26.np) (defScope (topS 43)) := ⟨rfl, rfl, rfl, by decide +kernel, rfl, by decide +kernel, by decide +kernel⟩
theorem tie26 {K : PySem.W.Frag} {mg : Str → Option Value} {h : Heap} {f : Addr} {od an : Option Addr} {sl : Array (Option Value)} {oc kV dc pm cd ct : Value} (X : K.In h) (G : h.Ns mainGlobals mg)
    (a : PySem.W.nsIn K mainGlobals "whole_book" = some (some (.ref f))) (l : K.lookup f = some ⟨oc, od, .func (PySem.W.fnOf "whole_book" "whole_book" (defArgs (topS 43)) (defBody (topS 43)) (defScope (topS 43)) .none kV dc pm an cd ct), sl⟩) (c : PySem.W.codeIn K cd "whole_book" = true) (k : PySem.W.keepIn K (.ref f) = true) : Tie K mg f d26 (topS 43) :=
  ⟨_, PySem.W.mg_of X G a, k, fun_mk (st := topS 43) l c k, sc26, (fun_mk (st := topS 43) l c k).binds fun _ _ _ _ _ _ us hl => match us, hl with | [_], _ => rfl⟩
theorem sc27 : FnScope d27.N (d27.N.take d27.np) (defScope (topS 44)) := ⟨rfl, rfl, rfl, by decide +kernel, rfl, by decide +kernel, by decide +kernel⟩
theorem tie27 {K : PySem.W.Frag} {mg : Str → Option Value} {h : Heap} {f : Addr} {od an : Option Addr} {sl : Array (Option Value)} {oc kV dc pm cd ct : Value} (X : K.In h) (G : h.Ns mainGlobals mg)
    (a : PySem.W.nsIn K mainGlobals "numbers_in" = some (some (.ref f))) (l : K.lookup f = some ⟨oc, od, .func (PySem.W.fnOf "numbers_in" "numbers_in" (defArgs (topS 44)) (defBody (topS 44)) (defScope (topS 44)) .none kV dc pm an cd ct), sl⟩) (c : PySem.W.codeIn K cd "numbers_in" = true) (k : PySem.W.keepIn K (.ref f) = true) : Tie K mg f d27 (topS 44) :=
  ⟨_, PySem.W.mg_of X G a, k, fun_mk (st := topS 44) l c k, sc27, (fun_mk (st := topS 44) l c k).binds fun _ _ _ _ _ _ us hl => match us, hl with | [_], _ => rfl⟩
theorem sc28 : FnScope d28.N (d28.N.take d28.np) (defScope (topS 45)) := ⟨rfl, rfl, rfl, by decide +kernel, rfl, by decide +kernel, by decide +kernel⟩
theorem tie28 {K : PySem.W.Frag} {mg : Str → Option Value} {h : Heap} {f : Addr} {od an : Option Addr} {sl : Array (Option Value)} {oc kV dc pm cd ct : Value} (X : K.In h) (G : h.Ns mainGlobals mg)
    (a : PySem.W.nsIn K mainGlobals "whole_row" = some (some (.ref f))) (l : K.lookup f = some ⟨oc, od, .func (PySem.W.fnOf "whole_row" "whole_row" (defArgs (topS 45)) (defBody (topS 45)) (defScope (topS 45)) .none kV dc pm an cd ct), sl⟩) (c : PySem.W.codeIn K cd "whole_row" = true) (k : PySem.W.keepIn K (.ref f) = true) : Tie K mg f d28 (topS 45) :=
  ⟨_, PySem.W.mg_of X G a, k, fun_mk (st := topS 45) l c k, sc28, (fun_mk (st := topS 45) l c k).binds fun _ _ _ _ _ _ us hl => match us, hl with | [_], _ => rfl⟩
theorem sc29 : FnScope d29.N (d29.N.take d29.np) (defScope (topS 46)) := ⟨rfl, rfl, rfl, by decide +kernel, rfl, by decide +kernel, by decide +kernel⟩
theorem tie29 {K : PySem.W.Frag} {mg : Str → Option Value} {h : Heap} {f : Addr} {od an : Option Addr} {sl : Array (Option Value)} {oc kV dc pm cd ct : Value} (X : K.In h) (G : h.Ns mainGlobals mg)
    (a : PySem.W.nsIn K mainGlobals "whole_step" = some (some (.ref f))) (l : K.lookup f = some ⟨oc, od, .func (PySem.W.fnOf "whole_step" "whole_step" (defArgs (topS 46)) (defBody (topS 46)) (defScope (topS 46)) .none kV dc pm an cd ct), sl⟩) (c : PySem.W.codeIn K cd "whole_step" = true) (k : PySem.W.keepIn K (.ref f) = true) : Tie K mg f d29 (topS 46) :=
  ⟨_, PySem.W.mg_of X G a, k, fun_mk (st := topS 46) l c k, sc29, (fun_mk (st := topS 46) l c k).binds fun _ _ _ _ _ _ us hl => match us, hl with | [_], _ => rfl⟩
theorem sc30 : FnScope d30.N (d30.N.take d30.np) (defScope (topS 47)) := ⟨rfl, rfl, rfl, by decide +kernel, rfl, by decide +kernel, by decide +kernel⟩
theorem tie30 {K : PySem.W.Frag} {mg : Str → Option Value} {h : Heap} {f : Addr} {od an : Option Addr} {sl : Array (Option Value)} {oc kV dc pm cd ct : Value} (X : K.In h) (G : h.Ns mainGlobals mg)
    (a : PySem.W.nsIn K mainGlobals "whole_run" = some (some (.ref f))) (l : K.lookup f = some ⟨oc, od, .func (PySem.W.fnOf "whole_run" "whole_run" (defArgs (topS 47)) (defBody (topS 47)) (defScope (topS 47)) .none kV dc pm an cd ct), sl⟩) (c : PySem.W.codeIn K cd "whole_run" = true) (k : PySem.W.keepIn K (.ref f) = true) : Tie K mg f d30 (topS 47) :=
  ⟨_, PySem.W.mg_of X G a, k, fun_mk (st := topS 47) l c k, sc30, (fun_mk (st := topS 47) l c k).binds fun _ _ _ _ _ _ us hl => match us, hl with | [_], _ => rfl⟩
theorem sc31 : FnScope d31.N (d31.N.take d31.np) (defScope (topS 48)) := ⟨rfl, rfl, rfl, by decide +kernel, rfl, by decide +kernel, by decide +kernel⟩
theorem tie31 {K : PySem.W.Frag} {mg : Str → Option Value} {h : Heap} {f : Addr} {od an : Option Addr} {sl : Array (Option Value)} {oc kV dc pm cd ct : Value} (X : K.In h) (G : h.Ns mainGlobals mg)
    (a : PySem.W.nsIn K mainGlobals "found_in" = some (some (.ref f))) (l : K.lookup f = some ⟨oc, od, .func (PySem.W.fnOf "found_in" "found_in" (defArgs (topS 48)) (defBody (topS 48)) (defScope (topS 48)) .none kV dc pm an cd ct), sl⟩) (c : PySem.W.codeIn K cd "found_in" = true) (k : PySem.W.keepIn K (.ref f) = true) : Tie K mg f d31 (topS 48) :=
  ⟨_, PySem.W.mg_of X G a, k, fun_mk (st := topS 48) l c k, sc31, (fun_mk (st := topS 48) l c k).binds fun _ _ _ _ _ _ us hl => match us, hl with | [_, _], _ => rfl⟩
theorem sc32 : FnScope d32.N (d32.N.take d32.np) (defScope (topS 49)) := ⟨rfl, rfl, rfl, by decide +kernel, rfl, by decide +kernel, by decide +kernel⟩
theorem tie32 {K : PySem.W.Frag} {mg : Str → Option Value} {h : Heap} {f : Addr} {od an : Option Addr} {sl : Array (Option Value)} {oc kV dc pm cd ct : Value} (X : K.In h) (G : h.Ns mainGlobals mg)
    (a : PySem.W.nsIn K mainGlobals "term_in" = some (some (.ref f))) (l : K.lookup f = some ⟨oc, od, .func (PySem.W.fnOf "term_in" "term_in" (defArgs (topS 49)) (defBody (topS 49)) (defScope (topS 49)) .none kV dc pm an cd ct), sl⟩) (c : PySem.W.codeIn K cd "term_in" = true) (k : PySem.W.keepIn K (.ref f) = true) : Tie K mg f d32 (topS 49) :=
  ⟨_, PySem.W.mg_of X G a, k, fun_mk (st := topS 49) l c k, sc32, (fun_mk (st := topS 49) l c k).binds fun _ _ _ _ _ _ us hl => match us, hl with | [_], _ => rfl⟩
theorem sc33 : FnScope d33.N (d33.N.take d33.np) (defScope (topS 50)) := ⟨rfl, rfl, rfl, by decide +kernel, rfl, by decide +kernel, by decide +kernel⟩
theorem tie33 {K : PySem.W.Frag} {mg : Str → Option Value} {h : Heap} {f : Addr} {od an : Option Addr} {sl : Array (Option Value)} {oc kV dc pm cd ct : Value} (X : K.In h) (G : h.Ns mainGlobals mg)
    (a : PySem.W.nsIn K mainGlobals "rule_in" = some (some (.ref f))) (l : K.lookup f = some ⟨oc, od, .func (PySem.W.fnOf "rule_in" "rule_in" (defArgs (topS 50)) (defBody (topS 50)) (defScope (topS 50)) .none kV dc pm an cd ct), sl⟩) (c : PySem.W.codeIn K cd "rule_in" = true) (k : PySem.W.keepIn K (.ref f) = true) : Tie K mg f d33 (topS 50) :=
  ⟨_, PySem.W.mg_of X G a, k, fun_mk (st := topS 50) l c k, sc33, (fun_mk (st := topS 50) l c k).binds fun _ _ _ _ _ _ us hl => match us, hl with | [_], _ => rfl⟩
theorem sc34 : FnScope d34.N (d34.N.take d34.np) (defScope (topS 51)) := ⟨rfl, rfl, rfl, by decide +kernel, rfl, by decide +kernel, by decide +kernel⟩
theorem tie34 {K : PySem.W.Frag} {mg : Str → Option Value} {h : Heap} {f : Addr} {od an : Option Addr} {sl : Array (Option Value)} {oc kV dc pm cd ct : Value} (X : K.In h) (G : h.Ns mainGlobals mg)
    (a : PySem.W.nsIn K mainGlobals "book_in" = some (some (.ref f))) (l : K.lookup f = some ⟨oc, od, .func (PySem.W.fnOf "book_in" "book_in" (defArgs (topS 51)) (defBody (topS 51)) (defScope (topS 51)) .none kV dc pm an cd ct), sl⟩) (c : PySem.W.codeIn K cd "book_in" = true) (k : PySem.W.keepIn K (.ref f) = true) : Tie K mg f d34 (topS 51) :=
  ⟨_, PySem.W.mg_of X G a, k, fun_mk (st := topS 51) l c k, sc34, (fun_mk (st := topS 51) l c k).binds fun _ _ _ _ _ _ us hl => match us, hl with | [_], _ => rfl⟩
theorem sc35 : FnScope d35.N (d35.N.take d35.np) (defScope (topS 52)) := ⟨rfl, rfl, rfl, by decide +kernel, rfl, by decide +kernel, by decide +kernel⟩
theorem tie35 {K : PySem.W.Frag} {mg : Str → Option Value} {h : Heap} {f : Addr} {od an : Option Addr} {sl : Array (Option Value)} {oc kV dc pm cd ct : Value} (X : K.In h) (G : h.Ns mainGlobals mg)
    (a : PySem.W.nsIn K mainGlobals "row_in" = some (some (.ref f))) (l : K.lookup f = some ⟨oc, od, .func (PySem.W.fnOf "row_in" "row_in" (defArgs (topS 52)) (defBody (topS 52)) (defScope (topS 52)) .none kV dc pm an cd ct), sl⟩) (c : PySem.W.codeIn K cd "row_in" = true) (k : PySem.W.keepIn K (.ref f) = true) : Tie K mg f d35 (topS 52) :=
  ⟨_, PySem.W.mg_of X G a, k, fun_mk (st := topS 52) l c k, sc35, (fun_mk (st := topS 52) l c k).binds fun _ _ _ _ _ _ us hl => match us, hl with | [_], _ => rfl⟩
theorem sc36 : FnScope d36.N (d36.N.take d36.np) (defScope (topS 53)) := ⟨rfl, rfl, rfl, by decide +kernel, rfl, by decide +kernel, by decide +kernel⟩
theorem tie36 {K : PySem.W.Frag} {mg : Str → Option Value} {h : Heap} {f : Addr} {od an : Option Addr} {sl : Array (Option Value)} {oc kV dc pm cd ct : Value} (X : K.In h) (G : h.Ns mainGlobals mg)
    (a : PySem.W.nsIn K mainGlobals "run_in" = some (some (.ref f))) (l : K.lookup f = some ⟨oc, od, .func (PySem.W.fnOf "run_in" "run_in" (defArgs (topS 53)) (defBody (topS 53)) (defScope (topS 53)) .none kV dc pm an cd ct), sl⟩) (c : PySem.W.codeIn K cd "run_in" = true) (k : PySem.W.keepIn K (.ref f) = true) : Tie K mg f d36 (topS 53) :=
  ⟨_, PySem.W.mg_of X G a, k, fun_mk (st := topS 53) l c k, sc36, (fun_mk (st := topS 53) l c k).binds fun _ _ _ _ _ _ us hl => match us, hl with | [_], _ => rfl⟩
theorem sc37 : FnScope d37.N (d37.N.take d37.np) (defScope (topS 55)) := ⟨rfl, rfl, rfl, by decide +kernel, rfl, by decide +kernel, by decide +kernel⟩
theorem tie37 {K : PySem.W.Frag} {mg : Str → Option Value} {h : Heap} {f : Addr} {od an : Option Addr} {sl : Array (Option Value)} {oc kV dc pm cd ct : Value} (X : K.In h) (G : h.Ns mainGlobals mg)
    (a : PySem.W.nsIn K mainGlobals "_law_box" = some (some (.ref f))) (l : K.lookup f = some ⟨oc, od, .func (PySem.W.fnOf "_law_box" "_law_box" (defArgs (topS 55)) (defBody (topS 55)) (defScope (topS 55)) .none kV dc pm an cd ct), sl⟩) (c : PySem.W.codeIn K cd "_law_box" = true) (k : PySem.W.keepIn K (.ref f) = true) : Tie K mg f d37 (topS 55) :=
  ⟨_, PySem.W.mg_of X G a, k, fun_mk (st := topS 55) l c k, sc37, (fun_mk (st := topS 55) l c k).binds fun _ _ _ _ _ _ us hl => match us, hl with | [_, _], _ => rfl⟩
theorem sc38 : FnScope d38.N (d38.N.take d38.np) (defScope (topS 56)) := ⟨rfl, rfl, rfl, by decide +kernel, rfl, by decide +kernel, by decide +kernel⟩
theorem tie38 {K : PySem.W.Frag} {mg : Str → Option Value} {h : Heap} {f : Addr} {od an : Option Addr} {sl : Array (Option Value)} {oc kV dc pm cd ct : Value} (X : K.In h) (G : h.Ns mainGlobals mg)
    (a : PySem.W.nsIn K mainGlobals "_law_take" = some (some (.ref f))) (l : K.lookup f = some ⟨oc, od, .func (PySem.W.fnOf "_law_take" "_law_take" (defArgs (topS 56)) (defBody (topS 56)) (defScope (topS 56)) .none kV dc pm an cd ct), sl⟩) (c : PySem.W.codeIn K cd "_law_take" = true) (k : PySem.W.keepIn K (.ref f) = true) : Tie K mg f d38 (topS 56) :=
  ⟨_, PySem.W.mg_of X G a, k, fun_mk (st := topS 56) l c k, sc38, (fun_mk (st := topS 56) l c k).binds fun _ _ _ _ _ _ us hl => match us, hl with | [_, _], _ => rfl⟩
theorem sc39 : FnScope d39.N (d39.N.take d39.np) (defScope (topS 57)) := ⟨rfl, rfl, rfl, by decide +kernel, rfl, by decide +kernel, by decide +kernel⟩
theorem tie39 {K : PySem.W.Frag} {mg : Str → Option Value} {h : Heap} {f : Addr} {od an : Option Addr} {sl : Array (Option Value)} {oc kV dc pm cd ct : Value} (X : K.In h) (G : h.Ns mainGlobals mg)
    (a : PySem.W.nsIn K mainGlobals "_law_cells" = some (some (.ref f))) (l : K.lookup f = some ⟨oc, od, .func (PySem.W.fnOf "_law_cells" "_law_cells" (defArgs (topS 57)) (defBody (topS 57)) (defScope (topS 57)) .none kV dc pm an cd ct), sl⟩) (c : PySem.W.codeIn K cd "_law_cells" = true) (k : PySem.W.keepIn K (.ref f) = true) : Tie K mg f d39 (topS 57) :=
  ⟨_, PySem.W.mg_of X G a, k, fun_mk (st := topS 57) l c k, sc39, (fun_mk (st := topS 57) l c k).binds fun _ _ _ _ _ _ us hl => match us, hl with | [_, _], _ => rfl⟩
theorem sc40 : FnScope d40.N (d40.N.take d40.np) (defScope (topS 58)) := ⟨rfl, rfl, rfl, by decide +kernel, rfl, by decide +kernel, by decide +kernel⟩
theorem tie40 {K : PySem.W.Frag} {mg : Str → Option Value} {h : Heap} {f : Addr} {od an : Option Addr} {sl : Array (Option Value)} {oc kV dc pm cd ct : Value} (X : K.In h) (G : h.Ns mainGlobals mg)
    (a : PySem.W.nsIn K mainGlobals "_law_same" = some (some (.ref f))) (l : K.lookup f = some ⟨oc, od, .func (PySem.W.fnOf "_law_same" "_law_same" (defArgs (topS 58)) (defBody (topS 58)) (defScope (topS 58)) .none kV dc pm an cd ct), sl⟩) (c : PySem.W.codeIn K cd "_law_same" = true) (k : PySem.W.keepIn K (.ref f) = true) : Tie K mg f d40 (topS 58) :=
  ⟨_, PySem.W.mg_of X G a, k, fun_mk (st := topS 58) l c k, sc40, (fun_mk (st := topS 58) l c k).binds fun _ _ _ _ _ _ us hl => match us, hl with | [_, _], _ => rfl⟩
theorem sc41 : FnScope d41.N (d41.N.take d41.np) (defScope (topS 59)) := ⟨rfl, rfl, rfl, by decide +kernel, rfl, by decide +kernel, by decide +kernel⟩
theorem tie41 {K : PySem.W.Frag} {mg : Str → Option Value} {h : Heap} {f : Addr} {od an : Option Addr} {sl : Array (Option Value)} {oc kV dc pm cd ct : Value} (X : K.In h) (G : h.Ns mainGlobals mg)
    (a : PySem.W.nsIn K mainGlobals "_law_of" = some (some (.ref f))) (l : K.lookup f = some ⟨oc, od, .func (PySem.W.fnOf "_law_of" "_law_of" (defArgs (topS 59)) (defBody (topS 59)) (defScope (topS 59)) .none kV dc pm an cd ct), sl⟩) (c : PySem.W.codeIn K cd "_law_of" = true) (k : PySem.W.keepIn K (.ref f) = true) : Tie K mg f d41 (topS 59) :=
  ⟨_, PySem.W.mg_of X G a, k, fun_mk (st := topS 59) l c k, sc41, (fun_mk (st := topS 59) l c k).binds fun _ _ _ _ _ _ us hl => match us, hl with | [_, _], _ => rfl⟩
theorem sc42 : FnScope d42.N (d42.N.take d42.np) (defScope (topS 61)) := ⟨rfl, rfl, rfl, by decide +kernel, rfl, by decide +kernel, by decide +kernel⟩
theorem tie42 {K : PySem.W.Frag} {mg : Str → Option Value} {h : Heap} {f : Addr} {od an : Option Addr} {sl : Array (Option Value)} {oc kV dc pm cd ct : Value} (X : K.In h) (G : h.Ns mainGlobals mg)
    (a : PySem.W.nsIn K mainGlobals "_law_heard" = some (some (.ref f))) (l : K.lookup f = some ⟨oc, od, .func (PySem.W.fnOf "_law_heard" "_law_heard" (defArgs (topS 61)) (defBody (topS 61)) (defScope (topS 61)) .none kV dc pm an cd ct), sl⟩) (c : PySem.W.codeIn K cd "_law_heard" = true) (k : PySem.W.keepIn K (.ref f) = true) : Tie K mg f d42 (topS 61) :=
  ⟨_, PySem.W.mg_of X G a, k, fun_mk (st := topS 61) l c k, sc42, (fun_mk (st := topS 61) l c k).binds fun _ _ _ _ _ _ us hl => match us, hl with | [_, _], _ => rfl⟩
theorem sc43 : FnScope d43.N (d43.N.take d43.np) (defScope (topS 62)) := ⟨rfl, rfl, rfl, by decide +kernel, rfl, by decide +kernel, by decide +kernel⟩
theorem tie43 {K : PySem.W.Frag} {mg : Str → Option Value} {h : Heap} {f : Addr} {od an : Option Addr} {sl : Array (Option Value)} {oc kV dc pm cd ct : Value} (X : K.In h) (G : h.Ns mainGlobals mg)
    (a : PySem.W.nsIn K mainGlobals "_law_small" = some (some (.ref f))) (l : K.lookup f = some ⟨oc, od, .func (PySem.W.fnOf "_law_small" "_law_small" (defArgs (topS 62)) (defBody (topS 62)) (defScope (topS 62)) .none kV dc pm an cd ct), sl⟩) (c : PySem.W.codeIn K cd "_law_small" = true) (k : PySem.W.keepIn K (.ref f) = true) : Tie K mg f d43 (topS 62) :=
  ⟨_, PySem.W.mg_of X G a, k, fun_mk (st := topS 62) l c k, sc43, (fun_mk (st := topS 62) l c k).binds fun _ _ _ _ _ _ us hl => match us, hl with | [], _ => rfl⟩
theorem sc44 : FnScope d44.N (d44.N.take d44.np) (defScope (topS 63)) := ⟨rfl, rfl, rfl, by decide +kernel, rfl, by decide +kernel, by decide +kernel⟩
theorem tie44 {K : PySem.W.Frag} {mg : Str → Option Value} {h : Heap} {f : Addr} {od an : Option Addr} {sl : Array (Option Value)} {oc kV dc pm cd ct : Value} (X : K.In h) (G : h.Ns mainGlobals mg)
    (a : PySem.W.nsIn K mainGlobals "_law_term_in" = some (some (.ref f))) (l : K.lookup f = some ⟨oc, od, .func (PySem.W.fnOf "_law_term_in" "_law_term_in" (defArgs (topS 63)) (defBody (topS 63)) (defScope (topS 63)) .none kV dc pm an cd ct), sl⟩) (c : PySem.W.codeIn K cd "_law_term_in" = true) (k : PySem.W.keepIn K (.ref f) = true) : Tie K mg f d44 (topS 63) :=
  ⟨_, PySem.W.mg_of X G a, k, fun_mk (st := topS 63) l c k, sc44, (fun_mk (st := topS 63) l c k).binds fun _ _ _ _ _ _ us hl => match us, hl with | [_, _], _ => rfl⟩
theorem sc45 : FnScope d45.N (d45.N.take d45.np) (defScope (topS 64)) := ⟨rfl, rfl, rfl, by decide +kernel, rfl, by decide +kernel, by decide +kernel⟩
theorem tie45 {K : PySem.W.Frag} {mg : Str → Option Value} {h : Heap} {f : Addr} {od an : Option Addr} {sl : Array (Option Value)} {oc kV dc pm cd ct : Value} (X : K.In h) (G : h.Ns mainGlobals mg)
    (a : PySem.W.nsIn K mainGlobals "_law_whole_term" = some (some (.ref f))) (l : K.lookup f = some ⟨oc, od, .func (PySem.W.fnOf "_law_whole_term" "_law_whole_term" (defArgs (topS 64)) (defBody (topS 64)) (defScope (topS 64)) .none kV dc pm an cd ct), sl⟩) (c : PySem.W.codeIn K cd "_law_whole_term" = true) (k : PySem.W.keepIn K (.ref f) = true) : Tie K mg f d45 (topS 64) :=
  ⟨_, PySem.W.mg_of X G a, k, fun_mk (st := topS 64) l c k, sc45, (fun_mk (st := topS 64) l c k).binds fun _ _ _ _ _ _ us hl => match us, hl with | [_], _ => rfl⟩
theorem sc46 : FnScope d46.N (d46.N.take d46.np) (defScope (topS 65)) := ⟨rfl, rfl, rfl, by decide +kernel, rfl, by decide +kernel, by decide +kernel⟩
theorem tie46 {K : PySem.W.Frag} {mg : Str → Option Value} {h : Heap} {f : Addr} {od an : Option Addr} {sl : Array (Option Value)} {oc kV dc pm cd ct : Value} (X : K.In h) (G : h.Ns mainGlobals mg)
    (a : PySem.W.nsIn K mainGlobals "_law_rule" = some (some (.ref f))) (l : K.lookup f = some ⟨oc, od, .func (PySem.W.fnOf "_law_rule" "_law_rule" (defArgs (topS 65)) (defBody (topS 65)) (defScope (topS 65)) .none kV dc pm an cd ct), sl⟩) (c : PySem.W.codeIn K cd "_law_rule" = true) (k : PySem.W.keepIn K (.ref f) = true) : Tie K mg f d46 (topS 65) :=
  ⟨_, PySem.W.mg_of X G a, k, fun_mk (st := topS 65) l c k, sc46, (fun_mk (st := topS 65) l c k).binds fun _ _ _ _ _ _ us hl => match us, hl with | [_], _ => rfl⟩
theorem sc47 : FnScope d47.N (d47.N.take d47.np) (defScope (topS 66)) := ⟨rfl, rfl, rfl, by decide +kernel, rfl, by decide +kernel, by decide +kernel⟩
theorem tie47 {K : PySem.W.Frag} {mg : Str → Option Value} {h : Heap} {f : Addr} {od an : Option Addr} {sl : Array (Option Value)} {oc kV dc pm cd ct : Value} (X : K.In h) (G : h.Ns mainGlobals mg)
    (a : PySem.W.nsIn K mainGlobals "_law_number" = some (some (.ref f))) (l : K.lookup f = some ⟨oc, od, .func (PySem.W.fnOf "_law_number" "_law_number" (defArgs (topS 66)) (defBody (topS 66)) (defScope (topS 66)) .none kV dc pm an cd ct), sl⟩) (c : PySem.W.codeIn K cd "_law_number" = true) (k : PySem.W.keepIn K (.ref f) = true) : Tie K mg f d47 (topS 66) :=
  ⟨_, PySem.W.mg_of X G a, k, fun_mk (st := topS 66) l c k, sc47, (fun_mk (st := topS 66) l c k).binds fun _ _ _ _ _ _ us hl => match us, hl with | [_], _ => rfl⟩
theorem sc48 : FnScope d48.N (d48.N.take d48.np) (defScope (topS 67)) := ⟨rfl, rfl, rfl, by decide +kernel, rfl, by decide +kernel, by decide +kernel⟩
theorem tie48 {K : PySem.W.Frag} {mg : Str → Option Value} {h : Heap} {f : Addr} {od an : Option Addr} {sl : Array (Option Value)} {oc kV dc pm cd ct : Value} (X : K.In h) (G : h.Ns mainGlobals mg)
    (a : PySem.W.nsIn K mainGlobals "_law_numbers" = some (some (.ref f))) (l : K.lookup f = some ⟨oc, od, .func (PySem.W.fnOf "_law_numbers" "_law_numbers" (defArgs (topS 67)) (defBody (topS 67)) (defScope (topS 67)) .none kV dc pm an cd ct), sl⟩) (c : PySem.W.codeIn K cd "_law_numbers" = true) (k : PySem.W.keepIn K (.ref f) = true) : Tie K mg f d48 (topS 67) :=
  ⟨_, PySem.W.mg_of X G a, k, fun_mk (st := topS 67) l c k, sc48, (fun_mk (st := topS 67) l c k).binds fun _ _ _ _ _ _ us hl => match us, hl with | [_, _], _ => rfl⟩
theorem sc49 : FnScope d49.N (d49.N.take d49.np) (defScope (topS 68)) := ⟨rfl, rfl, rfl, by decide +kernel, rfl, by decide +kernel, by decide +kernel⟩
theorem tie49 {K : PySem.W.Frag} {mg : Str → Option Value} {h : Heap} {f : Addr} {od an : Option Addr} {sl : Array (Option Value)} {oc kV dc pm cd ct : Value} (X : K.In h) (G : h.Ns mainGlobals mg)
    (a : PySem.W.nsIn K mainGlobals "_law_step" = some (some (.ref f))) (l : K.lookup f = some ⟨oc, od, .func (PySem.W.fnOf "_law_step" "_law_step" (defArgs (topS 68)) (defBody (topS 68)) (defScope (topS 68)) .none kV dc pm an cd ct), sl⟩) (c : PySem.W.codeIn K cd "_law_step" = true) (k : PySem.W.keepIn K (.ref f) = true) : Tie K mg f d49 (topS 68) :=
  ⟨_, PySem.W.mg_of X G a, k, fun_mk (st := topS 68) l c k, sc49, (fun_mk (st := topS 68) l c k).binds fun _ _ _ _ _ _ us hl => match us, hl with | [_], _ => rfl⟩
theorem sc50 : FnScope d50.N (d50.N.take d50.np) (defScope (topS 69)) := ⟨rfl, rfl, rfl, by decide +kernel, rfl, by decide +kernel, by decide +kernel⟩
theorem tie50 {K : PySem.W.Frag} {mg : Str → Option Value} {h : Heap} {f : Addr} {od an : Option Addr} {sl : Array (Option Value)} {oc kV dc pm cd ct : Value} (X : K.In h) (G : h.Ns mainGlobals mg)
    (a : PySem.W.nsIn K mainGlobals "_law_read" = some (some (.ref f))) (l : K.lookup f = some ⟨oc, od, .func (PySem.W.fnOf "_law_read" "_law_read" (defArgs (topS 69)) (defBody (topS 69)) (defScope (topS 69)) .none kV dc pm an cd ct), sl⟩) (c : PySem.W.codeIn K cd "_law_read" = true) (k : PySem.W.keepIn K (.ref f) = true) : Tie K mg f d50 (topS 69) :=
  ⟨_, PySem.W.mg_of X G a, k, fun_mk (st := topS 69) l c k, sc50, (fun_mk (st := topS 69) l c k).binds fun _ _ _ _ _ _ us hl => match us, hl with | [_, _], _ => rfl⟩
theorem sc51 : FnScope d51.N (d51.N.take d51.np) (defScope (topS 70)) := ⟨rfl, rfl, rfl, by decide +kernel, rfl, by decide +kernel, by decide +kernel⟩
theorem tie51 {K : PySem.W.Frag} {mg : Str → Option Value} {h : Heap} {f : Addr} {od an : Option Addr} {sl : Array (Option Value)} {oc kV dc pm cd ct : Value} (X : K.In h) (G : h.Ns mainGlobals mg)
    (a : PySem.W.nsIn K mainGlobals "_law_term" = some (some (.ref f))) (l : K.lookup f = some ⟨oc, od, .func (PySem.W.fnOf "_law_term" "_law_term" (defArgs (topS 70)) (defBody (topS 70)) (defScope (topS 70)) .none kV dc pm an cd ct), sl⟩) (c : PySem.W.codeIn K cd "_law_term" = true) (k : PySem.W.keepIn K (.ref f) = true) : Tie K mg f d51 (topS 70) :=
  ⟨_, PySem.W.mg_of X G a, k, fun_mk (st := topS 70) l c k, sc51, (fun_mk (st := topS 70) l c k).binds fun _ _ _ _ _ _ us hl => match us, hl with | [_, _], _ => rfl⟩
theorem sc52 : FnScope d52.N (d52.N.take d52.np) (defScope (topS 71)) := ⟨rfl, rfl, rfl, by decide +kernel, rfl, by decide +kernel, by decide +kernel⟩
theorem tie52 {K : PySem.W.Frag} {mg : Str → Option Value} {h : Heap} {f : Addr} {od an : Option Addr} {sl : Array (Option Value)} {oc kV dc pm cd ct : Value} (X : K.In h) (G : h.Ns mainGlobals mg)
    (a : PySem.W.nsIn K mainGlobals "_law_text" = some (some (.ref f))) (l : K.lookup f = some ⟨oc, od, .func (PySem.W.fnOf "_law_text" "_law_text" (defArgs (topS 71)) (defBody (topS 71)) (defScope (topS 71)) .none kV dc pm an cd ct), sl⟩) (c : PySem.W.codeIn K cd "_law_text" = true) (k : PySem.W.keepIn K (.ref f) = true) : Tie K mg f d52 (topS 71) :=
  ⟨_, PySem.W.mg_of X G a, k, fun_mk (st := topS 71) l c k, sc52, (fun_mk (st := topS 71) l c k).binds fun _ _ _ _ _ _ us hl => match us, hl with | [_, _], _ => rfl⟩
theorem sc53 : FnScope d53.N (d53.N.take d53.np) (defScope (topS 72)) := ⟨rfl, rfl, rfl, by decide +kernel, rfl, by decide +kernel, by decide +kernel⟩
theorem tie53 {K : PySem.W.Frag} {mg : Str → Option Value} {h : Heap} {f : Addr} {od an : Option Addr} {sl : Array (Option Value)} {oc kV dc pm cd ct : Value} (X : K.In h) (G : h.Ns mainGlobals mg)
    (a : PySem.W.nsIn K mainGlobals "_law_right" = some (some (.ref f))) (l : K.lookup f = some ⟨oc, od, .func (PySem.W.fnOf "_law_right" "_law_right" (defArgs (topS 72)) (defBody (topS 72)) (defScope (topS 72)) .none kV dc pm an cd ct), sl⟩) (c : PySem.W.codeIn K cd "_law_right" = true) (k : PySem.W.keepIn K (.ref f) = true) : Tie K mg f d53 (topS 72) :=
  ⟨_, PySem.W.mg_of X G a, k, fun_mk (st := topS 72) l c k, sc53, (fun_mk (st := topS 72) l c k).binds fun _ _ _ _ _ _ us hl => match us, hl with | [_], _ => rfl⟩
theorem sc54 : FnScope d54.N (d54.N.take d54.np) (defScope (topS 73)) := ⟨rfl, rfl, rfl, by decide +kernel, rfl, by decide +kernel, by decide +kernel⟩
theorem tie54 {K : PySem.W.Frag} {mg : Str → Option Value} {h : Heap} {f : Addr} {od an : Option Addr} {sl : Array (Option Value)} {oc kV dc pm cd ct : Value} (X : K.In h) (G : h.Ns mainGlobals mg)
    (a : PySem.W.nsIn K mainGlobals "_law_size" = some (some (.ref f))) (l : K.lookup f = some ⟨oc, od, .func (PySem.W.fnOf "_law_size" "_law_size" (defArgs (topS 73)) (defBody (topS 73)) (defScope (topS 73)) .none kV dc pm an cd ct), sl⟩) (c : PySem.W.codeIn K cd "_law_size" = true) (k : PySem.W.keepIn K (.ref f) = true) : Tie K mg f d54 (topS 73) :=
  ⟨_, PySem.W.mg_of X G a, k, fun_mk (st := topS 73) l c k, sc54, (fun_mk (st := topS 73) l c k).binds fun _ _ _ _ _ _ us hl => match us, hl with | [_], _ => rfl⟩
theorem sc55 : FnScope d55.N (d55.N.take d55.np) (defScope (topS 74)) := ⟨rfl, rfl, rfl, by decide +kernel, rfl, by decide +kernel, by decide +kernel⟩
theorem tie55 {K : PySem.W.Frag} {mg : Str → Option Value} {h : Heap} {f : Addr} {od an : Option Addr} {sl : Array (Option Value)} {oc kV dc pm cd ct : Value} (X : K.In h) (G : h.Ns mainGlobals mg)
    (a : PySem.W.nsIn K mainGlobals "_law_good" = some (some (.ref f))) (l : K.lookup f = some ⟨oc, od, .func (PySem.W.fnOf "_law_good" "_law_good" (defArgs (topS 74)) (defBody (topS 74)) (defScope (topS 74)) .none kV dc pm an cd ct), sl⟩) (c : PySem.W.codeIn K cd "_law_good" = true) (k : PySem.W.keepIn K (.ref f) = true) : Tie K mg f d55 (topS 74) :=
  ⟨_, PySem.W.mg_of X G a, k, fun_mk (st := topS 74) l c k, sc55, (fun_mk (st := topS 74) l c k).binds fun _ _ _ _ _ _ us hl => match us, hl with | [_, _], _ => rfl⟩
theorem sc56 : FnScope d56.N (d56.N.take d56.np) (defScope (topS 75)) := ⟨rfl, rfl, rfl, by decide +kernel, rfl, by decide +kernel, by decide +kernel⟩
theorem tie56 {K : PySem.W.Frag} {mg : Str → Option Value} {h : Heap} {f : Addr} {od an : Option Addr} {sl : Array (Option Value)} {oc kV dc pm cd ct : Value} (X : K.In h) (G : h.Ns mainGlobals mg)
    (a : PySem.W.nsIn K mainGlobals "law" = some (some (.ref f))) (l : K.lookup f = some ⟨oc, od, .func (PySem.W.fnOf "law" "law" (defArgs (topS 75)) (defBody (topS 75)) (defScope (topS 75)) .none kV dc pm an cd ct), sl⟩) (c : PySem.W.codeIn K cd "law" = true) (k : PySem.W.keepIn K (.ref f) = true) : Tie K mg f d56 (topS 75) :=
  ⟨_, PySem.W.mg_of X G a, k, fun_mk (st := topS 75) l c k, sc56, (fun_mk (st := topS 75) l c k).binds fun _ _ _ _ _ _ us hl => match us, hl with | [_], _ => rfl⟩

theorem scI0 : FnScope ["self", "text"] ["self", "text"] (defScope (inClass (topS 2) 0)) := ⟨rfl, rfl, rfl, by decide +kernel, rfl, by decide +kernel, by decide +kernel⟩
theorem init0 {prog : Program} {w : World} {K : PySem.W.Frag} {mg : Str → Option Value} {base : Heap} {C f : Addr} {fd : FuncData} (F : Fun K "__init__" "BadText.__init__" (inClass (topS 2) 0) f fd) (T : OexC K C) (no : PySem.W.findIn K (.ref C) "text" = some none) (hm : mg "ValueError" = none)
    (vV : PySem.W.findCls K (.type "ValueError") (.type "type") "__init__" = some (.val (.builtin "ValueError.__init__"))) : FnOk prog w K mg base (L2.CX prog w) 1 f fd ["self", "text"] (initSp C "text") := by
  refine F.okX scI0 (fun vs H Q E h => ?_) (fun cdv A outer s H vs Q E hr h => ⟨_, pss_cons (ps_expr (pe_veinit rfl hm vV (by exact (pa_cons (pv 0) (pa_cons pe_str pa_nil))))) (pss_one (ps_ost (pv 0) (pv 1))), ?_⟩)
  · obtain ⟨a, y, rfl, _⟩ := h
    rfl
  · obtain ⟨a, y, rfl, ha, h⟩ := h
    exact ⟨.ref a, rfl, a, C, _, rfl, by decide, T, ha, y, rfl, .ref a, rfl, a, C, rfl, T, no, .inl ⟨ha, h⟩⟩
/-- what the written part says of BadText -/
structure Cls0 (K : PySem.W.Frag) (mg : Str → Option Value) (C : Addr) : Prop where
  T : OexC K C
  x : XfC K C
  no : PySem.W.findIn K (.ref C) "text" = some none
  g : mg "BadText" = some (.ref C)
  ex : PySem.W.exmOne K (.ref C) (.ref C) = some true
  init : ∃ fI fd, PySem.W.findIn K (.ref C) "__init__" = some (some (.ref fI)) ∧ PySem.W.typeIn K (.ref fI) = some (.type "function") ∧ Binds K fd ["self", "text"] [] ∧ ∀ prog w base, FnOk prog w K mg base (L2.CX prog w) 1 fI fd ["self", "text"] (initSp C "text")
theorem cls0 {K : PySem.W.Frag} {mg : Str → Option Value} {h : Heap} {C f : Addr} {nm q : Str} {N : Addr} {bs : List Value} {sn : List Str} {sub : List Value} {ab : Bool} {col : Option Bool} {dd : Option Addr} {m0 m1 m2 m3 m5 : Option Value} {od an : Option Addr} {sl : Array (Option Value)} {oc dc pm cd ct kV : Value} (X : K.In h) (G : h.Ns mainGlobals mg)
    (aC : PySem.W.nsIn K mainGlobals "BadText" = some (some (.ref C)))
    (xL : K.lookup C = some (excClassObj nm q C N bs [.type "ValueError", .type "Exception", .type "BaseException", .type "object"] true sn sub ab col dd m0 m1 m2 m3 m5 "ValueError.__new__"))
    (sa : PySem.W.findIn K (.ref C) "__setattr__" = some (some (.builtin "object.__setattr__"))) (ga : PySem.W.findIn K (.ref C) "__getattribute__" = some (some (.builtin "BaseException.__getattribute__"))) (gg : PySem.W.findIn K (.ref C) "__getattr__" = some none) (nb : PySem.W.findIn K (.ref C) "text" = some none)
    (a1 : PySem.W.findIn K (.ref C) "__init__" = some (some (.ref f))) (t1 : PySem.W.typeIn K (.ref f) = some (.type "function"))
    (l1 : K.lookup f = some ⟨oc, od, .func (PySem.W.fnOf "__init__" "BadText.__init__" (defArgs (inClass (topS 2) 0)) (defBody (inClass (topS 2) 0)) (defScope (inClass (topS 2) 0)) .none kV dc pm an cd ct), sl⟩) (c1 : PySem.W.codeIn K cd "BadText.__init__" = true) (k1 : PySem.W.keepIn K (.ref f) = true)
    (kC : PySem.W.keepIn K (.ref C) = true) (eC : PySem.W.subIn K (.ref C) (.type "BaseException") = some true) (tC : PySem.W.typeIn K (.ref C) = some (.type "type")) (hC : PySem.W.hasDictIn K C = true) (iC : PySem.W.isClsIn K C = true) (sC : PySem.W.subIn K (.ref C) (.ref C) = some true)
    (zV : PySem.W.nsIn K mainGlobals "ValueError" = some none) (vV : PySem.W.findCls K (.type "ValueError") (.type "type") "__init__" = some (.val (.builtin "ValueError.__init__"))) : Cls0 K mg C := by
  have T : OexC K C := ⟨⟨nm, q, N, bs, _, sn, sub, ab, col, dd, m0, m1, m2, m3, m5, xL, by decide +kernel⟩, sa, eC, tC, kC⟩
  have F := fun_mk (st := (inClass (topS 2) 0)) l1 c1 k1
  exact ⟨T, ⟨ga, gg, eC, hC⟩, nb, PySem.W.mg_of X G aC, exm_own eC iC tC sC, f, _, a1, t1, F.binds fun _ _ _ _ _ _ us hl => match us, hl with | [_, _], _ => rfl, fun _ _ _ => init0 F T nb (PySem.W.mg_none_of X G zV) vV⟩

theorem lk {prog : Program} {w : World} {K : PySem.W.Frag} {mg : Str → Option Value} {base : Heap} {f0 f1 f2 f3 f4 f5 f6 f7 f8 f9 f10 f11 f12 f13 f14 f15 f16 f17 f18 f19 f20 f21 f22 f23 f24 f25 f26 f27 f28 f29 f30 f31 f32 f33 f34 f35 f36 f37 f38 f39 f40 f41 f42 f43 f44 f45 f46 f47 f48 f49 f50 f51 f52 f53 f54 f55 f56 C0 : Addr} (nm : ∀ x ∈ builtinNames, mg x = none)
    (t0 : Tie K mg f0 d0 (topS 4)) (t1 : Tie K mg f1 d1 (topS 5)) (t2 : Tie K mg f2 d2 (topS 6)) (t3 : Tie K mg f3 d3 (topS 7)) (t4 : Tie K mg f4 d4 (topS 8)) (t5 : Tie K mg f5 d5 (topS 13)) (t6 : Tie K mg f6 d6 (topS 14)) (t7 : Tie K mg f7 d7 (topS 17)) (t8 : Tie K mg f8 d8 (topS 18)) (t9 : Tie K mg f9 d9 (topS 19)) (t10 : Tie K mg f10 d10 (topS 27)) (t11 : Tie K mg f11 d11 (topS 28)) (t12 : Tie K mg f12 d12 (topS 29)) (t13 : Tie K mg f13 d13 (topS 30)) (t14 : Tie K mg f14 d14 (topS 31)) (t15 : Tie K mg f15 d15 (topS 32)) (t16 : Tie K mg f16 d16 (topS 33)) (t17 : Tie K mg f17 d17 (topS 34)) (t18 : Tie K mg f18 d18 (topS 35)) (t19 : Tie K mg f19 d19 (topS 36)) (t20 : Tie K mg f20 d20 (topS 37)) (t21 : Tie K mg f21 d21 (topS 38)) (t22 : Tie K mg f22 d22 (topS 39)) (t23 : Tie K mg f23 d23 (topS 40)) (t24 : Tie K mg f24 d24 (topS 41)) (t25 : Tie K mg f25 d25 (topS 42)) (t26 : Tie K mg f26 d26 (topS 43)) (t27 : Tie K mg f27 d27 (topS 44)) (t28 : Tie K mg f28 d28 (topS 45)) (t29 : Tie K mg f29 d29 (topS 46)) (t30 : Tie K mg f30 d30 (topS 47)) (t31 : Tie K mg f31 d31 (topS 48)) (t32 : Tie K mg f32 d32 (topS 49)) (t33 : Tie K mg f33 d33 (topS 50)) (t34 : Tie K mg f34 d34 (topS 51)) (t35 : Tie K mg f35 d35 (topS 52)) (t36 : Tie K mg f36 d36 (topS 53)) (t37 : Tie K mg f37 d37 (topS 55)) (t38 : Tie K mg f38 d38 (topS 56)) (t39 : Tie K mg f39 d39 (topS 57)) (t40 : Tie K mg f40 d40 (topS 58)) (t41 : Tie K mg f41 d41 (topS 59)) (t42 : Tie K mg f42 d42 (topS 61)) (t43 : Tie K mg f43 d43 (topS 62)) (t44 : Tie K mg f44 d44 (topS 63)) (t45 : Tie K mg f45 d45 (topS 64)) (t46 : Tie K mg f46 d46 (topS 65)) (t47 : Tie K mg f47 d47 (topS 66)) (t48 : Tie K mg f48 d48 (topS 67)) (t49 : Tie K mg f49 d49 (topS 68)) (t50 : Tie K mg f50 d50 (topS 69)) (t51 : Tie K mg f51 d51 (topS 70)) (t52 : Tie K mg f52 d52 (topS 71)) (t53 : Tie K mg f53 d53 (topS 72)) (t54 : Tie K mg f54 d54 (topS 73)) (t55 : Tie K mg f55 d55 (topS 74)) (t56 : Tie K mg f56 d56 (topS 75))
    (c0 : Cls0 K mg C0)
    (v0 : ∃ u, mg "SMALL" = some (.str "abcdefghijklmnopqrstuvwxyz" u)) (v1 : ∃ u, mg "MOST_NAME" = some (.int 8 u)) (v2 : ∃ u, mg "MOST_PARTS" = some (.int 3 u)) (v3 : ∃ u, mg "MOST_RULES" = some (.int 5 u)) (v4 : ∃ u, mg "DIGITS" = some (.str "0123456789" u)) (v5 : ∃ u, mg "MOST_DIGITS" = some (.int 6 u)) (v6 : ∃ u, mg "BLANK" = some (.str " " u)) (v7 : ∃ u, mg "TO" = some (.str " to " u)) (v8 : ∃ u, mg "BETWEEN" = some (.str "; " u)) (v9 : ∃ u, mg "NOTHING" = some (.str "-" u)) :
    Lk prg prog w K mg base (fun i => [f0, f1, f2, f3, f4, f5, f6, f7, f8, f9, f10, f11, f12, f13, f14, f15, f16, f17, f18, f19, f20, f21, f22, f23, f24, f25, f26, f27, f28, f29, f30, f31, f32, f33, f34, f35, f36, f37, f38, f39, f40, f41, f42, f43, f44, f45, f46, f47, f48, f49, f50, f51, f52, f53, f54, f55, f56][i]?) (fun i => [C0][i]?) := by
  refine ⟨nm, ?_, ?_, ?_, ?_⟩
  · refine defs_by (Q := fun f di => ∃ a fd qual st, [f0, f1, f2, f3, f4, f5, f6, f7, f8, f9, f10, f11, f12, f13, f14, f15, f16, f17, f18, f19, f20, f21, f22, f23, f24, f25, f26, f27, f28, f29, f30, f31, f32, f33, f34, f35, f36, f37, f38, f39, f40, f41, f42, f43, f44, f45, f46, f47, f48, f49, f50, f51, f52, f53, f54, f55, f56][f]? = some a ∧ mg di.name = some (.ref a) ∧ PySem.W.keepIn K (.ref a) = true ∧ Fun K di.name qual st a fd ∧ FnScope di.N (di.N.take di.np) (defScope st) ∧ Binds K fd (di.N.take di.np) [] ∧
      chkSs prg di.own di.N di.io di.fr di.body (defScope st) (defBody st) = true ∧ ownOk di = true) ?_
    refine ⟨(by obtain ⟨fd, h1, h2, h3, h4, h5⟩ := t0; exact ⟨f0, fd, _, _, rfl, h1, h2, h3, h4, h5, chk0, by decide⟩), ?_⟩
    refine ⟨(by obtain ⟨fd, h1, h2, h3, h4, h5⟩ := t1; exact ⟨f1, fd, _, _, rfl, h1, h2, h3, h4, h5, chk1, by decide⟩), ?_⟩
    refine ⟨(by obtain ⟨fd, h1, h2, h3, h4, h5⟩ := t2; exact ⟨f2, fd, _, _, rfl, h1, h2, h3, h4, h5, chk2, by decide⟩), ?_⟩
    refine ⟨(by obtain ⟨fd, h1, h2, h3, h4, h5⟩ := t3; exact ⟨f3, fd, _, _, rfl, h1, h2, h3, h4, h5, chk3, by decide⟩), ?_⟩
    refine ⟨(by obtain ⟨fd, h1, h2, h3, h4, h5⟩ := t4; exact ⟨f4, fd, _, _, rfl, h1, h2, h3, h4, h5, chk4, by decide⟩), ?_⟩
    refine ⟨(by obtain ⟨fd, h1, h2, h3, h4, h5⟩ := t5; exact ⟨f5, fd, _, _, rfl, h1, h2, h3, h4, h5, chk5, by decide⟩), ?_⟩
    refine ⟨(by obtain ⟨fd, h1, h2, h3, h4, h5⟩ := t6; exact ⟨f6, fd, _, _, rfl, h1, h2, h3, h4, h5, chk6, by decide⟩), ?_⟩
    refine ⟨(by obtain ⟨fd, h1, h2, h3, h4, h5⟩ := t7; exact ⟨f7, fd, _, _, rfl, h1, h2, h3, h4, h5, chk7, by decide⟩), ?_⟩
    refine ⟨(by obtain ⟨fd, h1, h2, h3, h4, h5⟩ := t8; exact ⟨f8, fd, _, _, rfl, h1, h2, h3, h4, h5, chk8, by decide⟩), ?_⟩
    refine ⟨(by obtain ⟨fd, h1, h2, h3, h4, h5⟩ := t9; exact ⟨f9, fd, _, _, rfl, h1, h2, h3, h4, h5, chk9, by decide⟩), ?_⟩
    refine ⟨(by obtain ⟨fd, h1, h2, h3, h4, h5⟩ := t10; exact ⟨f10, fd, _, _, rfl, h1, h2, h3, h4, h5, chk10, by decide⟩), ?_⟩
    refine ⟨(by obtain ⟨fd, h1, h2, h3, h4, h5⟩ := t11; exact ⟨f11, fd, _, _, rfl, h1, h2, h3, h4, h5, chk11, by decide⟩), ?_⟩
    refine ⟨(by obtain ⟨fd, h1, h2, h3, h4, h5⟩ := t12; exact ⟨f12, fd, _, _, rfl, h1, h2, h3, h4, h5, chk12, by decide⟩), ?_⟩
    refine ⟨(by obtain ⟨fd, h1, h2, h3, h4, h5⟩ := t13; exact ⟨f13, fd, _, _, rfl, h1, h2, h3, h4, h5, chk13, by decide⟩), ?_⟩
    refine ⟨(by obtain ⟨fd, h1, h2, h3, h4, h5⟩ := t14; exact ⟨f14, fd, _, _, rfl, h1, h2, h3, h4, h5, chk14, by decide⟩), ?_⟩
    refine ⟨(by obtain ⟨fd, h1, h2, h3, h4, h5⟩ := t15; exact ⟨f15, fd, _, _, rfl, h1, h2, h3, h4, h5, chk15, by decide⟩), ?_⟩
    refine ⟨(by obtain ⟨fd, h1, h2, h3, h4, h5⟩ := t16; exact ⟨f16, fd, _, _, rfl, h1, h2, h3, h4, h5, chk16, by decide⟩), ?_⟩
    refine ⟨(by obtain ⟨fd, h1, h2, h3, h4, h5⟩ := t17; exact ⟨f17, fd, _, _, rfl, h1, h2, h3, h4, h5, chk17, by decide⟩), ?_⟩
    refine ⟨(by obtain ⟨fd, h1, h2, h3, h4, h5⟩ := t18; exact ⟨f18, fd, _, _, rfl, h1, h2, h3, h4, h5, chk18, by decide⟩), ?_⟩
    refine ⟨(by obtain ⟨fd, h1, h2, h3, h4, h5⟩ := t19; exact ⟨f19, fd, _, _, rfl, h1, h2, h3, h4, h5, chk19, by decide⟩), ?_⟩
    refine ⟨(by obtain ⟨fd, h1, h2, h3, h4, h5⟩ := t20; exact ⟨f20, fd, _, _, rfl, h1, h2, h3, h4, h5, chk20, by decide⟩), ?_⟩
    refine ⟨(by obtain ⟨fd, h1, h2, h3, h4, h5⟩ := t21; exact ⟨f21, fd, _, _, rfl, h1, h2, h3, h4, h5, chk21, by decide⟩), ?_⟩
    refine ⟨(by obtain ⟨fd, h1, h2, h3, h4, h5⟩ := t22; exact ⟨f22, fd, _, _, rfl, h1, h2, h3, h4, h5, chk22, by decide⟩), ?_⟩
    refine ⟨(by obtain ⟨fd, h1, h2, h3, h4, h5⟩ := t23; exact ⟨f23, fd, _, _, rfl, h1, h2, h3, h4, h5, chk23, by decide⟩), ?_⟩
    refine ⟨(by obtain ⟨fd, h1, h2, h3, h4, h5⟩ := t24; exact ⟨f24, fd, _, _, rfl, h1, h2, h3, h4, h5, chk24, by decide⟩), ?_⟩
    refine ⟨(by obtain ⟨fd, h1, h2, h3, h4, h5⟩ := t25; exact ⟨f25, fd, _, _, rfl, h1, h2, h3, h4, h5, chk25, by decide⟩), ?_⟩
    refine ⟨(by obtain ⟨fd, h1, h2, h3, h4, h5⟩ := t26; exact ⟨f26, fd, _, _, rfl, h1, h2, h3, h4, h5, chk26, by decide⟩), ?_⟩
    refine ⟨(by obtain ⟨fd, h1, h2, h3, h4, h5⟩ := t27; exact ⟨f27, fd, _, _, rfl, h1, h2, h3, h4, h5, chk27, by decide⟩), ?_⟩
    refine ⟨(by obtain ⟨fd, h1, h2, h3, h4, h5⟩ := t28; exact ⟨f28, fd, _, _, rfl, h1, h2, h3, h4, h5, chk28, by decide⟩), ?_⟩
    refine ⟨(by obtain ⟨fd, h1, h2, h3, h4, h5⟩ := t29; exact ⟨f29, fd, _, _, rfl, h1, h2, h3, h4, h5, chk29, by decide⟩), ?_⟩
    refine ⟨(by obtain ⟨fd, h1, h2, h3, h4, h5⟩ := t30; exact ⟨f30, fd, _, _, rfl, h1, h2, h3, h4, h5, chk30, by decide⟩), ?_⟩
    refine ⟨(by obtain ⟨fd, h1, h2, h3, h4, h5⟩ := t31; exact ⟨f31, fd, _, _, rfl, h1, h2, h3, h4, h5, chk31, by decide⟩), ?_⟩
    refine ⟨(by obtain ⟨fd, h1, h2, h3, h4, h5⟩ := t32; exact ⟨f32, fd, _, _, rfl, h1, h2, h3, h4, h5, chk32, by decide⟩), ?_⟩
    refine ⟨(by obtain ⟨fd, h1, h2, h3, h4, h5⟩ := t33; exact ⟨f33, fd, _, _, rfl, h1, h2, h3, h4, h5, chk33, by decide⟩), ?_⟩
    refine ⟨(by obtain ⟨fd, h1, h2, h3, h4, h5⟩ := t34; exact ⟨f34, fd, _, _, rfl, h1, h2, h3, h4, h5, chk34, by decide⟩), ?_⟩
    refine ⟨(by obtain ⟨fd, h1, h2, h3, h4, h5⟩ := t35; exact ⟨f35, fd, _, _, rfl, h1, h2, h3, h4, h5, chk35, by decide⟩), ?_⟩
    refine ⟨(by obtain ⟨fd, h1, h2, h3, h4, h5⟩ := t36; exact ⟨f36, fd, _, _, rfl, h1, h2, h3, h4, h5, chk36, by decide⟩), ?_⟩
    refine ⟨(by obtain ⟨fd, h1, h2, h3, h4, h5⟩ := t37; exact ⟨f37, fd, _, _, rfl, h1, h2, h3, h4, h5, chk37, by decide⟩), ?_⟩
    refine ⟨(by obtain ⟨fd, h1, h2, h3, h4, h5⟩ := t38; exact ⟨f38, fd, _, _, rfl, h1, h2, h3, h4, h5, chk38, by decide⟩), ?_⟩
    refine ⟨(by obtain ⟨fd, h1, h2, h3, h4, h5⟩ := t39; exact ⟨f39, fd, _, _, rfl, h1, h2, h3, h4, h5, chk39, by decide⟩), ?_⟩
    refine ⟨(by obtain ⟨fd, h1, h2, h3, h4, h5⟩ := t40; exact ⟨f40, fd, _, _, rfl, h1, h2, h3, h4, h5, chk40, by decide⟩), ?_⟩
    refine ⟨(by obtain ⟨fd, h1, h2, h3, h4, h5⟩ := t41; exact ⟨f41, fd, _, _, rfl, h1, h2, h3, h4, h5, chk41, by decide⟩), ?_⟩
    refine ⟨(by obtain ⟨fd, h1, h2, h3, h4, h5⟩ := t42; exact ⟨f42, fd, _, _, rfl, h1, h2, h3, h4, h5, chk42, by decide⟩), ?_⟩
    refine ⟨(by obtain ⟨fd, h1, h2, h3, h4, h5⟩ := t43; exact ⟨f43, fd, _, _, rfl, h1, h2, h3, h4, h5, chk43, by decide⟩), ?_⟩
    refine ⟨(by obtain ⟨fd, h1, h2, h3, h4, h5⟩ := t44; exact ⟨f44, fd, _, _, rfl, h1, h2, h3, h4, h5, chk44, by decide⟩), ?_⟩
    refine ⟨(by obtain ⟨fd, h1, h2, h3, h4, h5⟩ := t45; exact ⟨f45, fd, _, _, rfl, h1, h2, h3, h4, h5, chk45, by decide⟩), ?_⟩
    refine ⟨(by obtain ⟨fd, h1, h2, h3, h4, h5⟩ := t46; exact ⟨f46, fd, _, _, rfl, h1, h2, h3, h4, h5, chk46, by decide⟩), ?_⟩
    refine ⟨(by obtain ⟨fd, h1, h2, h3, h4, h5⟩ := t47; exact ⟨f47, fd, _, _, rfl, h1, h2, h3, h4, h5, chk47, by decide⟩), ?_⟩
    refine ⟨(by obtain ⟨fd, h1, h2, h3, h4, h5⟩ := t48; exact ⟨f48, fd, _, _, rfl, h1, h2, h3, h4, h5, chk48, by decide⟩), ?_⟩
    refine ⟨(by obtain ⟨fd, h1, h2, h3, h4, h5⟩ := t49; exact ⟨f49, fd, _, _, rfl, h1, h2, h3, h4, h5, chk49, by decide⟩), ?_⟩
    refine ⟨(by obtain ⟨fd, h1, h2, h3, h4, h5⟩ := t50; exact ⟨f50, fd, _, _, rfl, h1, h2, h3, h4, h5, chk50, by decide⟩), ?_⟩
    refine ⟨(by obtain ⟨fd, h1, h2, h3, h4, h5⟩ := t51; exact ⟨f51, fd, _, _, rfl, h1, h2, h3, h4, h5, chk51, by decide⟩), ?_⟩
    refine ⟨(by obtain ⟨fd, h1, h2, h3, h4, h5⟩ := t52; exact ⟨f52, fd, _, _, rfl, h1, h2, h3, h4, h5, chk52, by decide⟩), ?_⟩
    refine ⟨(by obtain ⟨fd, h1, h2, h3, h4, h5⟩ := t53; exact ⟨f53, fd, _, _, rfl, h1, h2, h3, h4, h5, chk53, by decide⟩), ?_⟩
    refine ⟨(by obtain ⟨fd, h1, h2, h3, h4, h5⟩ := t54; exact ⟨f54, fd, _, _, rfl, h1, h2, h3, h4, h5, chk54, by decide⟩), ?_⟩
    refine ⟨(by obtain ⟨fd, h1, h2, h3, h4, h5⟩ := t55; exact ⟨f55, fd, _, _, rfl, h1, h2, h3, h4, h5, chk55, by decide⟩), ?_⟩
    refine ⟨(by obtain ⟨fd, h1, h2, h3, h4, h5⟩ := t56; exact ⟨f56, fd, _, _, rfl, h1, h2, h3, h4, h5, chk56, by decide⟩), ?_⟩
    exact trivial
  · intro FA x d h
    obtain ⟨p, hp, h⟩ := List.any_eq_true.mp h
    rw [Bool.and_eq_true] at h
    have e1 := eq_of_beq h.1
    have e2 := D.beq_eq h.2
    subst e1 e2
    refine consts_by (l := prg.consts) (Q := fun x d => ∃ u v, mg x = some u ∧ RelV v u ∧ ∀ S H, Den K FA S H v d) ?_ p hp
    refine ⟨(by obtain ⟨u, h⟩ := v0; exact ⟨_, .str "abcdefghijklmnopqrstuvwxyz", h, ⟨_, rfl⟩, fun _ _ => .str [97, 98, 99, 100, 101, 102, 103, 104, 105, 106, 107, 108, 109, 110, 111, 112, 113, 114, 115, 116, 117, 118, 119, 120, 121, 122]⟩), ?_⟩
    refine ⟨(by obtain ⟨u, h⟩ := v1; exact ⟨_, .int 8, h, ⟨_, rfl⟩, fun _ _ => .int 8⟩), ?_⟩
    refine ⟨(by obtain ⟨u, h⟩ := v2; exact ⟨_, .int 3, h, ⟨_, rfl⟩, fun _ _ => .int 3⟩), ?_⟩
    refine ⟨(by obtain ⟨u, h⟩ := v3; exact ⟨_, .int 5, h, ⟨_, rfl⟩, fun _ _ => .int 5⟩), ?_⟩
    refine ⟨(by obtain ⟨u, h⟩ := v4; exact ⟨_, .str "0123456789", h, ⟨_, rfl⟩, fun _ _ => .str [48, 49, 50, 51, 52, 53, 54, 55, 56, 57]⟩), ?_⟩
    refine ⟨(by obtain ⟨u, h⟩ := v5; exact ⟨_, .int 6, h, ⟨_, rfl⟩, fun _ _ => .int 6⟩), ?_⟩
    refine ⟨(by obtain ⟨u, h⟩ := v6; exact ⟨_, .str " ", h, ⟨_, rfl⟩, fun _ _ => .str [32]⟩), ?_⟩
    refine ⟨(by obtain ⟨u, h⟩ := v7; exact ⟨_, .str " to ", h, ⟨_, rfl⟩, fun _ _ => .str [32, 116, 111, 32]⟩), ?_⟩
    refine ⟨(by obtain ⟨u, h⟩ := v8; exact ⟨_, .str "; ", h, ⟨_, rfl⟩, fun _ _ => .str [59, 32]⟩), ?_⟩
    refine ⟨(by obtain ⟨u, h⟩ := v9; exact ⟨_, .str "-", h, ⟨_, rfl⟩, fun _ _ => .str [45]⟩), ?_⟩
    exact trivial
  · intro c nm f h
    cases c with
    | zero =>
      cases h
      obtain ⟨fI, fd, h1, h2, h3, h4⟩ := c0.init
      exact ⟨C0, fI, fd, _, rfl, c0.T, h1, h2, h4 _ _ _, h3, c0.g, c0.x, c0.no⟩
    | succ c => cases h
  · intro c c' C C' h h'
    cases c with
    | zero =>
      cases c' with
      | zero =>
        cases h
        cases h'
        exact c0.ex
      | succ c' => cases h'
    | succ c => cases h
theorem with0 {goal : Prop} {K : PySem.W.Frag} {mg : Str → Option Value} {h : Heap} {f : Addr} {od an : Option Addr} {sl : Array (Option Value)} {oc kV dc pm cd ct : Value} (X : K.In h) (G : h.Ns mainGlobals mg)
    (a : PySem.W.nsIn K mainGlobals "is_number" = some (some (.ref f))) (l : K.lookup f = some ⟨oc, od, .func (PySem.W.fnOf "is_number" "is_number" (defArgs (topS 4)) (defBody (topS 4)) (defScope (topS 4)) .none kV dc pm an cd ct), sl⟩) (c : PySem.W.codeIn K cd "is_number" = true) (k : PySem.W.keepIn K (.ref f) = true) (next : Tie K mg f d0 (topS 4) → goal) : goal := next (tie0 X G a l c k)
theorem with1 {goal : Prop} {K : PySem.W.Frag} {mg : Str → Option Value} {h : Heap} {f : Addr} {od an : Option Addr} {sl : Array (Option Value)} {oc kV dc pm cd ct : Value} (X : K.In h) (G : h.Ns mainGlobals mg)
    (a : PySem.W.nsIn K mainGlobals "is_from" = some (some (.ref f))) (l : K.lookup f = some ⟨oc, od, .func (PySem.W.fnOf "is_from" "is_from" (defArgs (topS 5)) (defBody (topS 5)) (defScope (topS 5)) .none kV dc pm an cd ct), sl⟩) (c : PySem.W.codeIn K cd "is_from" = true) (k : PySem.W.keepIn K (.ref f) = true) (next : Tie K mg f d1 (topS 5) → goal) : goal := next (tie1 X G a l c k)
theorem with2 {goal : Prop} {K : PySem.W.Frag} {mg : Str → Option Value} {h : Heap} {f : Addr} {od an : Option Addr} {sl : Array (Option Value)} {oc kV dc pm cd ct : Value} (X : K.In h) (G : h.Ns mainGlobals mg)
    (a : PySem.W.nsIn K mainGlobals "tuple_of" = some (some (.ref f))) (l : K.lookup f = some ⟨oc, od, .func (PySem.W.fnOf "tuple_of" "tuple_of" (defArgs (topS 6)) (defBody (topS 6)) (defScope (topS 6)) .none kV dc pm an cd ct), sl⟩) (c : PySem.W.codeIn K cd "tuple_of" = true) (k : PySem.W.keepIn K (.ref f) = true) (next : Tie K mg f d2 (topS 6) → goal) : goal := next (tie2 X G a l c k)
theorem with3 {goal : Prop} {K : PySem.W.Frag} {mg : Str → Option Value} {h : Heap} {f : Addr} {od an : Option Addr} {sl : Array (Option Value)} {oc kV dc pm cd ct : Value} (X : K.In h) (G : h.Ns mainGlobals mg)
    (a : PySem.W.nsIn K mainGlobals "is_tuple_of" = some (some (.ref f))) (l : K.lookup f = some ⟨oc, od, .func (PySem.W.fnOf "is_tuple_of" "is_tuple_of" (defArgs (topS 7)) (defBody (topS 7)) (defScope (topS 7)) .none kV dc pm an cd ct), sl⟩) (c : PySem.W.codeIn K cd "is_tuple_of" = true) (k : PySem.W.keepIn K (.ref f) = true) (next : Tie K mg f d3 (topS 7) → goal) : goal := next (tie3 X G a l c k)
theorem with4 {goal : Prop} {K : PySem.W.Frag} {mg : Str → Option Value} {h : Heap} {f : Addr} {od an : Option Addr} {sl : Array (Option Value)} {oc kV dc pm cd ct : Value} (X : K.In h) (G : h.Ns mainGlobals mg)
    (a : PySem.W.nsIn K mainGlobals "sure" = some (some (.ref f))) (l : K.lookup f = some ⟨oc, od, .func (PySem.W.fnOf "sure" "sure" (defArgs (topS 8)) (defBody (topS 8)) (defScope (topS 8)) .none kV dc pm an cd ct), sl⟩) (c : PySem.W.codeIn K cd "sure" = true) (k : PySem.W.keepIn K (.ref f) = true) (next : Tie K mg f d4 (topS 8) → goal) : goal := next (tie4 X G a l c k)
theorem with5 {goal : Prop} {K : PySem.W.Frag} {mg : Str → Option Value} {h : Heap} {f : Addr} {od an : Option Addr} {sl : Array (Option Value)} {oc kV dc pm cd ct : Value} (X : K.In h) (G : h.Ns mainGlobals mg)
    (a : PySem.W.nsIn K mainGlobals "is_name" = some (some (.ref f))) (l : K.lookup f = some ⟨oc, od, .func (PySem.W.fnOf "is_name" "is_name" (defArgs (topS 13)) (defBody (topS 13)) (defScope (topS 13)) .none kV dc pm an cd ct), sl⟩) (c : PySem.W.codeIn K cd "is_name" = true) (k : PySem.W.keepIn K (.ref f) = true) (next : Tie K mg f d5 (topS 13) → goal) : goal := next (tie5 X G a l c k)
theorem with6 {goal : Prop} {K : PySem.W.Frag} {mg : Str → Option Value} {h : Heap} {f : Addr} {od an : Option Addr} {sl : Array (Option Value)} {oc kV dc pm cd ct : Value} (X : K.In h) (G : h.Ns mainGlobals mg)
    (a : PySem.W.nsIn K mainGlobals "is_term" = some (some (.ref f))) (l : K.lookup f = some ⟨oc, od, .func (PySem.W.fnOf "is_term" "is_term" (defArgs (topS 14)) (defBody (topS 14)) (defScope (topS 14)) .none kV dc pm an cd ct), sl⟩) (c : PySem.W.codeIn K cd "is_term" = true) (k : PySem.W.keepIn K (.ref f) = true) (next : Tie K mg f d6 (topS 14) → goal) : goal := next (tie6 X G a l c k)
theorem with7 {goal : Prop} {K : PySem.W.Frag} {mg : Str → Option Value} {h : Heap} {f : Addr} {od an : Option Addr} {sl : Array (Option Value)} {oc kV dc pm cd ct : Value} (X : K.In h) (G : h.Ns mainGlobals mg)
    (a : PySem.W.nsIn K mainGlobals "is_rule" = some (some (.ref f))) (l : K.lookup f = some ⟨oc, od, .func (PySem.W.fnOf "is_rule" "is_rule" (defArgs (topS 17)) (defBody (topS 17)) (defScope (topS 17)) .none kV dc pm an cd ct), sl⟩) (c : PySem.W.codeIn K cd "is_rule" = true) (k : PySem.W.keepIn K (.ref f) = true) (next : Tie K mg f d7 (topS 17) → goal) : goal := next (tie7 X G a l c k)
theorem with8 {goal : Prop} {K : PySem.W.Frag} {mg : Str → Option Value} {h : Heap} {f : Addr} {od an : Option Addr} {sl : Array (Option Value)} {oc kV dc pm cd ct : Value} (X : K.In h) (G : h.Ns mainGlobals mg)
    (a : PySem.W.nsIn K mainGlobals "is_book" = some (some (.ref f))) (l : K.lookup f = some ⟨oc, od, .func (PySem.W.fnOf "is_book" "is_book" (defArgs (topS 18)) (defBody (topS 18)) (defScope (topS 18)) .none kV dc pm an cd ct), sl⟩) (c : PySem.W.codeIn K cd "is_book" = true) (k : PySem.W.keepIn K (.ref f) = true) (next : Tie K mg f d8 (topS 18) → goal) : goal := next (tie8 X G a l c k)
theorem with9 {goal : Prop} {K : PySem.W.Frag} {mg : Str → Option Value} {h : Heap} {f : Addr} {od an : Option Addr} {sl : Array (Option Value)} {oc kV dc pm cd ct : Value} (X : K.In h) (G : h.Ns mainGlobals mg)
    (a : PySem.W.nsIn K mainGlobals "is_pair" = some (some (.ref f))) (l : K.lookup f = some ⟨oc, od, .func (PySem.W.fnOf "is_pair" "is_pair" (defArgs (topS 19)) (defBody (topS 19)) (defScope (topS 19)) .none kV dc pm an cd ct), sl⟩) (c : PySem.W.codeIn K cd "is_pair" = true) (k : PySem.W.keepIn K (.ref f) = true) (next : Tie K mg f d9 (topS 19) → goal) : goal := next (tie9 X G a l c k)
theorem with10 {goal : Prop} {K : PySem.W.Frag} {mg : Str → Option Value} {h : Heap} {f : Addr} {od an : Option Addr} {sl : Array (Option Value)} {oc kV dc pm cd ct : Value} (X : K.In h) (G : h.Ns mainGlobals mg)
    (a : PySem.W.nsIn K mainGlobals "made_text" = some (some (.ref f))) (l : K.lookup f = some ⟨oc, od, .func (PySem.W.fnOf "made_text" "made_text" (defArgs (topS 27)) (defBody (topS 27)) (defScope (topS 27)) .none kV dc pm an cd ct), sl⟩) (c : PySem.W.codeIn K cd "made_text" = true) (k : PySem.W.keepIn K (.ref f) = true) (next : Tie K mg f d10 (topS 27) → goal) : goal := next (tie10 X G a l c k)
theorem with11 {goal : Prop} {K : PySem.W.Frag} {mg : Str → Option Value} {h : Heap} {f : Addr} {od an : Option Addr} {sl : Array (Option Value)} {oc kV dc pm cd ct : Value} (X : K.In h) (G : h.Ns mainGlobals mg)
    (a : PySem.W.nsIn K mainGlobals "term_text" = some (some (.ref f))) (l : K.lookup f = some ⟨oc, od, .func (PySem.W.fnOf "term_text" "term_text" (defArgs (topS 28)) (defBody (topS 28)) (defScope (topS 28)) .none kV dc pm an cd ct), sl⟩) (c : PySem.W.codeIn K cd "term_text" = true) (k : PySem.W.keepIn K (.ref f) = true) (next : Tie K mg f d11 (topS 28) → goal) : goal := next (tie11 X G a l c k)
theorem with12 {goal : Prop} {K : PySem.W.Frag} {mg : Str → Option Value} {h : Heap} {f : Addr} {od an : Option Addr} {sl : Array (Option Value)} {oc kV dc pm cd ct : Value} (X : K.In h) (G : h.Ns mainGlobals mg)
    (a : PySem.W.nsIn K mainGlobals "made_rule_text" = some (some (.ref f))) (l : K.lookup f = some ⟨oc, od, .func (PySem.W.fnOf "made_rule_text" "made_rule_text" (defArgs (topS 29)) (defBody (topS 29)) (defScope (topS 29)) .none kV dc pm an cd ct), sl⟩) (c : PySem.W.codeIn K cd "made_rule_text" = true) (k : PySem.W.keepIn K (.ref f) = true) (next : Tie K mg f d12 (topS 29) → goal) : goal := next (tie12 X G a l c k)
theorem with13 {goal : Prop} {K : PySem.W.Frag} {mg : Str → Option Value} {h : Heap} {f : Addr} {od an : Option Addr} {sl : Array (Option Value)} {oc kV dc pm cd ct : Value} (X : K.In h) (G : h.Ns mainGlobals mg)
    (a : PySem.W.nsIn K mainGlobals "rule_text" = some (some (.ref f))) (l : K.lookup f = some ⟨oc, od, .func (PySem.W.fnOf "rule_text" "rule_text" (defArgs (topS 30)) (defBody (topS 30)) (defScope (topS 30)) .none kV dc pm an cd ct), sl⟩) (c : PySem.W.codeIn K cd "rule_text" = true) (k : PySem.W.keepIn K (.ref f) = true) (next : Tie K mg f d13 (topS 30) → goal) : goal := next (tie13 X G a l c k)
theorem with14 {goal : Prop} {K : PySem.W.Frag} {mg : Str → Option Value} {h : Heap} {f : Addr} {od an : Option Addr} {sl : Array (Option Value)} {oc kV dc pm cd ct : Value} (X : K.In h) (G : h.Ns mainGlobals mg)
    (a : PySem.W.nsIn K mainGlobals "made_book_text" = some (some (.ref f))) (l : K.lookup f = some ⟨oc, od, .func (PySem.W.fnOf "made_book_text" "made_book_text" (defArgs (topS 31)) (defBody (topS 31)) (defScope (topS 31)) .none kV dc pm an cd ct), sl⟩) (c : PySem.W.codeIn K cd "made_book_text" = true) (k : PySem.W.keepIn K (.ref f) = true) (next : Tie K mg f d14 (topS 31) → goal) : goal := next (tie14 X G a l c k)
theorem with15 {goal : Prop} {K : PySem.W.Frag} {mg : Str → Option Value} {h : Heap} {f : Addr} {od an : Option Addr} {sl : Array (Option Value)} {oc kV dc pm cd ct : Value} (X : K.In h) (G : h.Ns mainGlobals mg)
    (a : PySem.W.nsIn K mainGlobals "book_text" = some (some (.ref f))) (l : K.lookup f = some ⟨oc, od, .func (PySem.W.fnOf "book_text" "book_text" (defArgs (topS 32)) (defBody (topS 32)) (defScope (topS 32)) .none kV dc pm an cd ct), sl⟩) (c : PySem.W.codeIn K cd "book_text" = true) (k : PySem.W.keepIn K (.ref f) = true) (next : Tie K mg f d15 (topS 32) → goal) : goal := next (tie15 X G a l c k)
theorem with16 {goal : Prop} {K : PySem.W.Frag} {mg : Str → Option Value} {h : Heap} {f : Addr} {od an : Option Addr} {sl : Array (Option Value)} {oc kV dc pm cd ct : Value} (X : K.In h) (G : h.Ns mainGlobals mg)
    (a : PySem.W.nsIn K mainGlobals "words_of" = some (some (.ref f))) (l : K.lookup f = some ⟨oc, od, .func (PySem.W.fnOf "words_of" "words_of" (defArgs (topS 33)) (defBody (topS 33)) (defScope (topS 33)) .none kV dc pm an cd ct), sl⟩) (c : PySem.W.codeIn K cd "words_of" = true) (k : PySem.W.keepIn K (.ref f) = true) (next : Tie K mg f d16 (topS 33) → goal) : goal := next (tie16 X G a l c k)
theorem with17 {goal : Prop} {K : PySem.W.Frag} {mg : Str → Option Value} {h : Heap} {f : Addr} {od an : Option Addr} {sl : Array (Option Value)} {oc kV dc pm cd ct : Value} (X : K.In h) (G : h.Ns mainGlobals mg)
    (a : PySem.W.nsIn K mainGlobals "row_text" = some (some (.ref f))) (l : K.lookup f = some ⟨oc, od, .func (PySem.W.fnOf "row_text" "row_text" (defArgs (topS 34)) (defBody (topS 34)) (defScope (topS 34)) .none kV dc pm an cd ct), sl⟩) (c : PySem.W.codeIn K cd "row_text" = true) (k : PySem.W.keepIn K (.ref f) = true) (next : Tie K mg f d17 (topS 34) → goal) : goal := next (tie17 X G a l c k)
theorem with18 {goal : Prop} {K : PySem.W.Frag} {mg : Str → Option Value} {h : Heap} {f : Addr} {od an : Option Addr} {sl : Array (Option Value)} {oc kV dc pm cd ct : Value} (X : K.In h) (G : h.Ns mainGlobals mg)
    (a : PySem.W.nsIn K mainGlobals "step_text" = some (some (.ref f))) (l : K.lookup f = some ⟨oc, od, .func (PySem.W.fnOf "step_text" "step_text" (defArgs (topS 35)) (defBody (topS 35)) (defScope (topS 35)) .none kV dc pm an cd ct), sl⟩) (c : PySem.W.codeIn K cd "step_text" = true) (k : PySem.W.keepIn K (.ref f) = true) (next : Tie K mg f d18 (topS 35) → goal) : goal := next (tie18 X G a l c k)
theorem with19 {goal : Prop} {K : PySem.W.Frag} {mg : Str → Option Value} {h : Heap} {f : Addr} {od an : Option Addr} {sl : Array (Option Value)} {oc kV dc pm cd ct : Value} (X : K.In h) (G : h.Ns mainGlobals mg)
    (a : PySem.W.nsIn K mainGlobals "made_run_text" = some (some (.ref f))) (l : K.lookup f = some ⟨oc, od, .func (PySem.W.fnOf "made_run_text" "made_run_text" (defArgs (topS 36)) (defBody (topS 36)) (defScope (topS 36)) .none kV dc pm an cd ct), sl⟩) (c : PySem.W.codeIn K cd "made_run_text" = true) (k : PySem.W.keepIn K (.ref f) = true) (next : Tie K mg f d19 (topS 36) → goal) : goal := next (tie19 X G a l c k)
theorem with20 {goal : Prop} {K : PySem.W.Frag} {mg : Str → Option Value} {h : Heap} {f : Addr} {od an : Option Addr} {sl : Array (Option Value)} {oc kV dc pm cd ct : Value} (X : K.In h) (G : h.Ns mainGlobals mg)
    (a : PySem.W.nsIn K mainGlobals "run_text" = some (some (.ref f))) (l : K.lookup f = some ⟨oc, od, .func (PySem.W.fnOf "run_text" "run_text" (defArgs (topS 37)) (defBody (topS 37)) (defScope (topS 37)) .none kV dc pm an cd ct), sl⟩) (c : PySem.W.codeIn K cd "run_text" = true) (k : PySem.W.keepIn K (.ref f) = true) (next : Tie K mg f d20 (topS 37) → goal) : goal := next (tie20 X G a l c k)
theorem with21 {goal : Prop} {K : PySem.W.Frag} {mg : Str → Option Value} {h : Heap} {f : Addr} {od an : Option Addr} {sl : Array (Option Value)} {oc kV dc pm cd ct : Value} (X : K.In h) (G : h.Ns mainGlobals mg)
    (a : PySem.W.nsIn K mainGlobals "number_in" = some (some (.ref f))) (l : K.lookup f = some ⟨oc, od, .func (PySem.W.fnOf "number_in" "number_in" (defArgs (topS 38)) (defBody (topS 38)) (defScope (topS 38)) .none kV dc pm an cd ct), sl⟩) (c : PySem.W.codeIn K cd "number_in" = true) (k : PySem.W.keepIn K (.ref f) = true) (next : Tie K mg f d21 (topS 38) → goal) : goal := next (tie21 X G a l c k)
theorem with22 {goal : Prop} {K : PySem.W.Frag} {mg : Str → Option Value} {h : Heap} {f : Addr} {od an : Option Addr} {sl : Array (Option Value)} {oc kV dc pm cd ct : Value} (X : K.In h) (G : h.Ns mainGlobals mg)
    (a : PySem.W.nsIn K mainGlobals "name_end" = some (some (.ref f))) (l : K.lookup f = some ⟨oc, od, .func (PySem.W.fnOf "name_end" "name_end" (defArgs (topS 39)) (defBody (topS 39)) (defScope (topS 39)) .none kV dc pm an cd ct), sl⟩) (c : PySem.W.codeIn K cd "name_end" = true) (k : PySem.W.keepIn K (.ref f) = true) (next : Tie K mg f d22 (topS 39) → goal) : goal := next (tie22 X G a l c k)
theorem with23 {goal : Prop} {K : PySem.W.Frag} {mg : Str → Option Value} {h : Heap} {f : Addr} {od an : Option Addr} {sl : Array (Option Value)} {oc kV dc pm cd ct : Value} (X : K.In h) (G : h.Ns mainGlobals mg)
    (a : PySem.W.nsIn K mainGlobals "read_term" = some (some (.ref f))) (l : K.lookup f = some ⟨oc, od, .func (PySem.W.fnOf "read_term" "read_term" (defArgs (topS 40)) (defBody (topS 40)) (defScope (topS 40)) .none kV dc pm an cd ct), sl⟩) (c : PySem.W.codeIn K cd "read_term" = true) (k : PySem.W.keepIn K (.ref f) = true) (next : Tie K mg f d23 (topS 40) → goal) : goal := next (tie23 X G a l c k)
theorem with24 {goal : Prop} {K : PySem.W.Frag} {mg : Str → Option Value} {h : Heap} {f : Addr} {od an : Option Addr} {sl : Array (Option Value)} {oc kV dc pm cd ct : Value} (X : K.In h) (G : h.Ns mainGlobals mg)
    (a : PySem.W.nsIn K mainGlobals "whole_term" = some (some (.ref f))) (l : K.lookup f = some ⟨oc, od, .func (PySem.W.fnOf "whole_term" "whole_term" (defArgs (topS 41)) (defBody (topS 41)) (defScope (topS 41)) .none kV dc pm an cd ct), sl⟩) (c : PySem.W.codeIn K cd "whole_term" = true) (k : PySem.W.keepIn K (.ref f) = true) (next : Tie K mg f d24 (topS 41) → goal) : goal := next (tie24 X G a l c k)
theorem with25 {goal : Prop} {K : PySem.W.Frag} {mg : Str → Option Value} {h : Heap} {f : Addr} {od an : Option Addr} {sl : Array (Option Value)} {oc kV dc pm cd ct : Value} (X : K.In h) (G : h.Ns mainGlobals mg)
    (a : PySem.W.nsIn K mainGlobals "whole_rule" = some (some (.ref f))) (l : K.lookup f = some ⟨oc, od, .func (PySem.W.fnOf "whole_rule" "whole_rule" (defArgs (topS 42)) (defBody (topS 42)) (defScope (topS 42)) .none kV dc pm an cd ct), sl⟩) (c : PySem.W.codeIn K cd "whole_rule" = true) (k : PySem.W.keepIn K (.ref f) = true) (next : Tie K mg f d25 (topS 42) → goal) : goal := next (tie25 X G a l c k)
theorem with26 {goal : Prop} {K : PySem.W.Frag} {mg : Str → Option Value} {h : Heap} {f : Addr} {od an : Option Addr} {sl : Array (Option Value)} {oc kV dc pm cd ct : Value} (X : K.In h) (G : h.Ns mainGlobals mg)
    (a : PySem.W.nsIn K mainGlobals "whole_book" = some (some (.ref f))) (l : K.lookup f = some ⟨oc, od, .func (PySem.W.fnOf "whole_book" "whole_book" (defArgs (topS 43)) (defBody (topS 43)) (defScope (topS 43)) .none kV dc pm an cd ct), sl⟩) (c : PySem.W.codeIn K cd "whole_book" = true) (k : PySem.W.keepIn K (.ref f) = true) (next : Tie K mg f d26 (topS 43) → goal) : goal := next (tie26 X G a l c k)
theorem with27 {goal : Prop} {K : PySem.W.Frag} {mg : Str → Option Value} {h : Heap} {f : Addr} {od an : Option Addr} {sl : Array (Option Value)} {oc kV dc pm cd ct : Value} (X : K.In h) (G : h.Ns mainGlobals mg)
    (a : PySem.W.nsIn K mainGlobals "numbers_in" = some (some (.ref f))) (l : K.lookup f = some ⟨oc, od, .func (PySem.W.fnOf "numbers_in" "numbers_in" (defArgs (topS 44)) (defBody (topS 44)) (defScope (topS 44)) .none kV dc pm an cd ct), sl⟩) (c : PySem.W.codeIn K cd "numbers_in" = true) (k : PySem.W.keepIn K (.ref f) = true) (next : Tie K mg f d27 (topS 44) → goal) : goal := next (tie27 X G a l c k)
theorem with28 {goal : Prop} {K : PySem.W.Frag} {mg : Str → Option Value} {h : Heap} {f : Addr} {od an : Option Addr} {sl : Array (Option Value)} {oc kV dc pm cd ct : Value} (X : K.In h) (G : h.Ns mainGlobals mg)
    (a : PySem.W.nsIn K mainGlobals "whole_row" = some (some (.ref f))) (l : K.lookup f = some ⟨oc, od, .func (PySem.W.fnOf "whole_row" "whole_row" (defArgs (topS 45)) (defBody (topS 45)) (defScope (topS 45)) .none kV dc pm an cd ct), sl⟩) (c : PySem.W.codeIn K cd "whole_row" = true) (k : PySem.W.keepIn K (.ref f) = true) (next : Tie K mg f d28 (topS 45) → goal) : goal := next (tie28 X G a l c k)
theorem with29 {goal : Prop} {K : PySem.W.Frag} {mg : Str → Option Value} {h : Heap} {f : Addr} {od an : Option Addr} {sl : Array (Option Value)} {oc kV dc pm cd ct : Value} (X : K.In h) (G : h.Ns mainGlobals mg)
    (a : PySem.W.nsIn K mainGlobals "whole_step" = some (some (.ref f))) (l : K.lookup f = some ⟨oc, od, .func (PySem.W.fnOf "whole_step" "whole_step" (defArgs (topS 46)) (defBody (topS 46)) (defScope (topS 46)) .none kV dc pm an cd ct), sl⟩) (c : PySem.W.codeIn K cd "whole_step" = true) (k : PySem.W.keepIn K (.ref f) = true) (next : Tie K mg f d29 (topS 46) → goal) : goal := next (tie29 X G a l c k)
theorem with30 {goal : Prop} {K : PySem.W.Frag} {mg : Str → Option Value} {h : Heap} {f : Addr} {od an : Option Addr} {sl : Array (Option Value)} {oc kV dc pm cd ct : Value} (X : K.In h) (G : h.Ns mainGlobals mg)
    (a : PySem.W.nsIn K mainGlobals "whole_run" = some (some (.ref f))) (l : K.lookup f = some ⟨oc, od, .func (PySem.W.fnOf "whole_run" "whole_run" (defArgs (topS 47)) (defBody (topS 47)) (defScope (topS 47)) .none kV dc pm an cd ct), sl⟩) (c : PySem.W.codeIn K cd "whole_run" = true) (k : PySem.W.keepIn K (.ref f) = true) (next : Tie K mg f d30 (topS 47) → goal) : goal := next (tie30 X G a l c k)
theorem with31 {goal : Prop} {K : PySem.W.Frag} {mg : Str → Option Value} {h : Heap} {f : Addr} {od an : Option Addr} {sl : Array (Option Value)} {oc kV dc pm cd ct : Value} (X : K.In h) (G : h.Ns mainGlobals mg)
    (a : PySem.W.nsIn K mainGlobals "found_in" = some (some (.ref f))) (l : K.lookup f = some ⟨oc, od, .func (PySem.W.fnOf "found_in" "found_in" (defArgs (topS 48)) (defBody (topS 48)) (defScope (topS 48)) .none kV dc pm an cd ct), sl⟩) (c : PySem.W.codeIn K cd "found_in" = true) (k : PySem.W.keepIn K (.ref f) = true) (next : Tie K mg f d31 (topS 48) → goal) : goal := next (tie31 X G a l c k)
theorem with32 {goal : Prop} {K : PySem.W.Frag} {mg : Str → Option Value} {h : Heap} {f : Addr} {od an : Option Addr} {sl : Array (Option Value)} {oc kV dc pm cd ct : Value} (X : K.In h) (G : h.Ns mainGlobals mg)
    (a : PySem.W.nsIn K mainGlobals "term_in" = some (some (.ref f))) (l : K.lookup f = some ⟨oc, od, .func (PySem.W.fnOf "term_in" "term_in" (defArgs (topS 49)) (defBody (topS 49)) (defScope (topS 49)) .none kV dc pm an cd ct), sl⟩) (c : PySem.W.codeIn K cd "term_in" = true) (k : PySem.W.keepIn K (.ref f) = true) (next : Tie K mg f d32 (topS 49) → goal) : goal := next (tie32 X G a l c k)
theorem with33 {goal : Prop} {K : PySem.W.Frag} {mg : Str → Option Value} {h : Heap} {f : Addr} {od an : Option Addr} {sl : Array (Option Value)} {oc kV dc pm cd ct : Value} (X : K.In h) (G : h.Ns mainGlobals mg)
    (a : PySem.W.nsIn K mainGlobals "rule_in" = some (some (.ref f))) (l : K.lookup f = some ⟨oc, od, .func (PySem.W.fnOf "rule_in" "rule_in" (defArgs (topS 50)) (defBody (topS 50)) (defScope (topS 50)) .none kV dc pm an cd ct), sl⟩) (c : PySem.W.codeIn K cd "rule_in" = true) (k : PySem.W.keepIn K (.ref f) = true) (next : Tie K mg f d33 (topS 50) → goal) : goal := next (tie33 X G a l c k)
theorem with34 {goal : Prop} {K : PySem.W.Frag} {mg : Str → Option Value} {h : Heap} {f : Addr} {od an : Option Addr} {sl : Array (Option Value)} {oc kV dc pm cd ct : Value} (X : K.In h) (G : h.Ns mainGlobals mg)
    (a : PySem.W.nsIn K mainGlobals "book_in" = some (some (.ref f))) (l : K.lookup f = some ⟨oc, od, .func (PySem.W.fnOf "book_in" "book_in" (defArgs (topS 51)) (defBody (topS 51)) (defScope (topS 51)) .none kV dc pm an cd ct), sl⟩) (c : PySem.W.codeIn K cd "book_in" = true) (k : PySem.W.keepIn K (.ref f) = true) (next : Tie K mg f d34 (topS 51) → goal) : goal := next (tie34 X G a l c k)
theorem with35 {goal : Prop} {K : PySem.W.Frag} {mg : Str → Option Value} {h : Heap} {f : Addr} {od an : Option Addr} {sl : Array (Option Value)} {oc kV dc pm cd ct : Value} (X : K.In h) (G : h.Ns mainGlobals mg)
    (a : PySem.W.nsIn K mainGlobals "row_in" = some (some (.ref f))) (l : K.lookup f = some ⟨oc, od, .func (PySem.W.fnOf "row_in" "row_in" (defArgs (topS 52)) (defBody (topS 52)) (defScope (topS 52)) .none kV dc pm an cd ct), sl⟩) (c : PySem.W.codeIn K cd "row_in" = true) (k : PySem.W.keepIn K (.ref f) = true) (next : Tie K mg f d35 (topS 52) → goal) : goal := next (tie35 X G a l c k)
theorem with36 {goal : Prop} {K : PySem.W.Frag} {mg : Str → Option Value} {h : Heap} {f : Addr} {od an : Option Addr} {sl : Array (Option Value)} {oc kV dc pm cd ct : Value} (X : K.In h) (G : h.Ns mainGlobals mg)
    (a : PySem.W.nsIn K mainGlobals "run_in" = some (some (.ref f))) (l : K.lookup f = some ⟨oc, od, .func (PySem.W.fnOf "run_in" "run_in" (defArgs (topS 53)) (defBody (topS 53)) (defScope (topS 53)) .none kV dc pm an cd ct), sl⟩) (c : PySem.W.codeIn K cd "run_in" = true) (k : PySem.W.keepIn K (.ref f) = true) (next : Tie K mg f d36 (topS 53) → goal) : goal := next (tie36 X G a l c k)
theorem with37 {goal : Prop} {K : PySem.W.Frag} {mg : Str → Option Value} {h : Heap} {f : Addr} {od an : Option Addr} {sl : Array (Option Value)} {oc kV dc pm cd ct : Value} (X : K.In h) (G : h.Ns mainGlobals mg)
    (a : PySem.W.nsIn K mainGlobals "_law_box" = some (some (.ref f))) (l : K.lookup f = some ⟨oc, od, .func (PySem.W.fnOf "_law_box" "_law_box" (defArgs (topS 55)) (defBody (topS 55)) (defScope (topS 55)) .none kV dc pm an cd ct), sl⟩) (c : PySem.W.codeIn K cd "_law_box" = true) (k : PySem.W.keepIn K (.ref f) = true) (next : Tie K mg f d37 (topS 55) → goal) : goal := next (tie37 X G a l c k)
theorem with38 {goal : Prop} {K : PySem.W.Frag} {mg : Str → Option Value} {h : Heap} {f : Addr} {od an : Option Addr} {sl : Array (Option Value)} {oc kV dc pm cd ct : Value} (X : K.In h) (G : h.Ns mainGlobals mg)
    (a : PySem.W.nsIn K mainGlobals "_law_take" = some (some (.ref f))) (l : K.lookup f = some ⟨oc, od, .func (PySem.W.fnOf "_law_take" "_law_take" (defArgs (topS 56)) (defBody (topS 56)) (defScope (topS 56)) .none kV dc pm an cd ct), sl⟩) (c : PySem.W.codeIn K cd "_law_take" = true) (k : PySem.W.keepIn K (.ref f) = true) (next : Tie K mg f d38 (topS 56) → goal) : goal := next (tie38 X G a l c k)
theorem with39 {goal : Prop} {K : PySem.W.Frag} {mg : Str → Option Value} {h : Heap} {f : Addr} {od an : Option Addr} {sl : Array (Option Value)} {oc kV dc pm cd ct : Value} (X : K.In h) (G : h.Ns mainGlobals mg)
    (a : PySem.W.nsIn K mainGlobals "_law_cells" = some (some (.ref f))) (l : K.lookup f = some ⟨oc, od, .func (PySem.W.fnOf "_law_cells" "_law_cells" (defArgs (topS 57)) (defBody (topS 57)) (defScope (topS 57)) .none kV dc pm an cd ct), sl⟩) (c : PySem.W.codeIn K cd "_law_cells" = true) (k : PySem.W.keepIn K (.ref f) = true) (next : Tie K mg f d39 (topS 57) → goal) : goal := next (tie39 X G a l c k)
theorem with40 {goal : Prop} {K : PySem.W.Frag} {mg : Str → Option Value} {h : Heap} {f : Addr} {od an : Option Addr} {sl : Array (Option Value)} {oc kV dc pm cd ct : Value} (X : K.In h) (G : h.Ns mainGlobals mg)
    (a : PySem.W.nsIn K mainGlobals "_law_same" = some (some (.ref f))) (l : K.lookup f = some ⟨oc, od, .func (PySem.W.fnOf "_law_same" "_law_same" (defArgs (topS 58)) (defBody (topS 58)) (defScope (topS 58)) .none kV dc pm an cd ct), sl⟩) (c : PySem.W.codeIn K cd "_law_same" = true) (k : PySem.W.keepIn K (.ref f) = true) (next : Tie K mg f d40 (topS 58) → goal) : goal := next (tie40 X G a l c k)
theorem with41 {goal : Prop} {K : PySem.W.Frag} {mg : Str → Option Value} {h : Heap} {f : Addr} {od an : Option Addr} {sl : Array (Option Value)} {oc kV dc pm cd ct : Value} (X : K.In h) (G : h.Ns mainGlobals mg)
    (a : PySem.W.nsIn K mainGlobals "_law_of" = some (some (.ref f))) (l : K.lookup f = some ⟨oc, od, .func (PySem.W.fnOf "_law_of" "_law_of" (defArgs (topS 59)) (defBody (topS 59)) (defScope (topS 59)) .none kV dc pm an cd ct), sl⟩) (c : PySem.W.codeIn K cd "_law_of" = true) (k : PySem.W.keepIn K (.ref f) = true) (next : Tie K mg f d41 (topS 59) → goal) : goal := next (tie41 X G a l c k)
theorem with42 {goal : Prop} {K : PySem.W.Frag} {mg : Str → Option Value} {h : Heap} {f : Addr} {od an : Option Addr} {sl : Array (Option Value)} {oc kV dc pm cd ct : Value} (X : K.In h) (G : h.Ns mainGlobals mg)
    (a : PySem.W.nsIn K mainGlobals "_law_heard" = some (some (.ref f))) (l : K.lookup f = some ⟨oc, od, .func (PySem.W.fnOf "_law_heard" "_law_heard" (defArgs (topS 61)) (defBody (topS 61)) (defScope (topS 61)) .none kV dc pm an cd ct), sl⟩) (c : PySem.W.codeIn K cd "_law_heard" = true) (k : PySem.W.keepIn K (.ref f) = true) (next : Tie K mg f d42 (topS 61) → goal) : goal := next (tie42 X G a l c k)
theorem with43 {goal : Prop} {K : PySem.W.Frag} {mg : Str → Option Value} {h : Heap} {f : Addr} {od an : Option Addr} {sl : Array (Option Value)} {oc kV dc pm cd ct : Value} (X : K.In h) (G : h.Ns mainGlobals mg)
    (a : PySem.W.nsIn K mainGlobals "_law_small" = some (some (.ref f))) (l : K.lookup f = some ⟨oc, od, .func (PySem.W.fnOf "_law_small" "_law_small" (defArgs (topS 62)) (defBody (topS 62)) (defScope (topS 62)) .none kV dc pm an cd ct), sl⟩) (c : PySem.W.codeIn K cd "_law_small" = true) (k : PySem.W.keepIn K (.ref f) = true) (next : Tie K mg f d43 (topS 62) → goal) : goal := next (tie43 X G a l c k)
theorem with44 {goal : Prop} {K : PySem.W.Frag} {mg : Str → Option Value} {h : Heap} {f : Addr} {od an : Option Addr} {sl : Array (Option Value)} {oc kV dc pm cd ct : Value} (X : K.In h) (G : h.Ns mainGlobals mg)
    (a : PySem.W.nsIn K mainGlobals "_law_term_in" = some (some (.ref f))) (l : K.lookup f = some ⟨oc, od, .func (PySem.W.fnOf "_law_term_in" "_law_term_in" (defArgs (topS 63)) (defBody (topS 63)) (defScope (topS 63)) .none kV dc pm an cd ct), sl⟩) (c : PySem.W.codeIn K cd "_law_term_in" = true) (k : PySem.W.keepIn K (.ref f) = true) (next : Tie K mg f d44 (topS 63) → goal) : goal := next (tie44 X G a l c k)
theorem with45 {goal : Prop} {K : PySem.W.Frag} {mg : Str → Option Value} {h : Heap} {f : Addr} {od an : Option Addr} {sl : Array (Option Value)} {oc kV dc pm cd ct : Value} (X : K.In h) (G : h.Ns mainGlobals mg)
    (a : PySem.W.nsIn K mainGlobals "_law_whole_term" = some (some (.ref f))) (l : K.lookup f = some ⟨oc, od, .func (PySem.W.fnOf "_law_whole_term" "_law_whole_term" (defArgs (topS 64)) (defBody (topS 64)) (defScope (topS 64)) .none kV dc pm an cd ct), sl⟩) (c : PySem.W.codeIn K cd "_law_whole_term" = true) (k : PySem.W.keepIn K (.ref f) = true) (next : Tie K mg f d45 (topS 64) → goal) : goal := next (tie45 X G a l c k)
theorem with46 {goal : Prop} {K : PySem.W.Frag} {mg : Str → Option Value} {h : Heap} {f : Addr} {od an : Option Addr} {sl : Array (Option Value)} {oc kV dc pm cd ct : Value} (X : K.In h) (G : h.Ns mainGlobals mg)
    (a : PySem.W.nsIn K mainGlobals "_law_rule" = some (some (.ref f))) (l : K.lookup f = some ⟨oc, od, .func (PySem.W.fnOf "_law_rule" "_law_rule" (defArgs (topS 65)) (defBody (topS 65)) (defScope (topS 65)) .none kV dc pm an cd ct), sl⟩) (c : PySem.W.codeIn K cd "_law_rule" = true) (k : PySem.W.keepIn K (.ref f) = true) (next : Tie K mg f d46 (topS 65) → goal) : goal := next (tie46 X G a l c k)
theorem with47 {goal : Prop} {K : PySem.W.Frag} {mg : Str → Option Value} {h : Heap} {f : Addr} {od an : Option Addr} {sl : Array (Option Value)} {oc kV dc pm cd ct : Value} (X : K.In h) (G : h.Ns mainGlobals mg)
    (a : PySem.W.nsIn K mainGlobals "_law_number" = some (some (.ref f))) (l : K.lookup f = some ⟨oc, od, .func (PySem.W.fnOf "_law_number" "_law_number" (defArgs (topS 66)) (defBody (topS 66)) (defScope (topS 66)) .none kV dc pm an cd ct), sl⟩) (c : PySem.W.codeIn K cd "_law_number" = true) (k : PySem.W.keepIn K (.ref f) = true) (next : Tie K mg f d47 (topS 66) → goal) : goal := next (tie47 X G a l c k)
theorem with48 {goal : Prop} {K : PySem.W.Frag} {mg : Str → Option Value} {h : Heap} {f : Addr} {od an : Option Addr} {sl : Array (Option Value)} {oc kV dc pm cd ct : Value} (X : K.In h) (G : h.Ns mainGlobals mg)
    (a : PySem.W.nsIn K mainGlobals "_law_numbers" = some (some (.ref f))) (l : K.lookup f = some ⟨oc, od, .func (PySem.W.fnOf "_law_numbers" "_law_numbers" (defArgs (topS 67)) (defBody (topS 67)) (defScope (topS 67)) .none kV dc pm an cd ct), sl⟩) (c : PySem.W.codeIn K cd "_law_numbers" = true) (k : PySem.W.keepIn K (.ref f) = true) (next : Tie K mg f d48 (topS 67) → goal) : goal := next (tie48 X G a l c k)
theorem with49 {goal : Prop} {K : PySem.W.Frag} {mg : Str → Option Value} {h : Heap} {f : Addr} {od an : Option Addr} {sl : Array (Option Value)} {oc kV dc pm cd ct : Value} (X : K.In h) (G : h.Ns mainGlobals mg)
    (a : PySem.W.nsIn K mainGlobals "_law_step" = some (some (.ref f))) (l : K.lookup f = some ⟨oc, od, .func (PySem.W.fnOf "_law_step" "_law_step" (defArgs (topS 68)) (defBody (topS 68)) (defScope (topS 68)) .none kV dc pm an cd ct), sl⟩) (c : PySem.W.codeIn K cd "_law_step" = true) (k : PySem.W.keepIn K (.ref f) = true) (next : Tie K mg f d49 (topS 68) → goal) : goal := next (tie49 X G a l c k)
theorem with50 {goal : Prop} {K : PySem.W.Frag} {mg : Str → Option Value} {h : Heap} {f : Addr} {od an : Option Addr} {sl : Array (Option Value)} {oc kV dc pm cd ct : Value} (X : K.In h) (G : h.Ns mainGlobals mg)
    (a : PySem.W.nsIn K mainGlobals "_law_read" = some (some (.ref f))) (l : K.lookup f = some ⟨oc, od, .func (PySem.W.fnOf "_law_read" "_law_read" (defArgs (topS 69)) (defBody (topS 69)) (defScope (topS 69)) .none kV dc pm an cd ct), sl⟩) (c : PySem.W.codeIn K cd "_law_read" = true) (k : PySem.W.keepIn K (.ref f) = true) (next : Tie K mg f d50 (topS 69) → goal) : goal := next (tie50 X G a l c k)
theorem with51 {goal : Prop} {K : PySem.W.Frag} {mg : Str → Option Value} {h : Heap} {f : Addr} {od an : Option Addr} {sl : Array (Option Value)} {oc kV dc pm cd ct : Value} (X : K.In h) (G : h.Ns mainGlobals mg)
    (a : PySem.W.nsIn K mainGlobals "_law_term" = some (some (.ref f))) (l : K.lookup f = some ⟨oc, od, .func (PySem.W.fnOf "_law_term" "_law_term" (defArgs (topS 70)) (defBody (topS 70)) (defScope (topS 70)) .none kV dc pm an cd ct), sl⟩) (c : PySem.W.codeIn K cd "_law_term" = true) (k : PySem.W.keepIn K (.ref f) = true) (next : Tie K mg f d51 (topS 70) → goal) : goal := next (tie51 X G a l c k)
theorem with52 {goal : Prop} {K : PySem.W.Frag} {mg : Str → Option Value} {h : Heap} {f : Addr} {od an : Option Addr} {sl : Array (Option Value)} {oc kV dc pm cd ct : Value} (X : K.In h) (G : h.Ns mainGlobals mg)
    (a : PySem.W.nsIn K mainGlobals "_law_text" = some (some (.ref f))) (l : K.lookup f = some ⟨oc, od, .func (PySem.W.fnOf "_law_text" "_law_text" (defArgs (topS 71)) (defBody (topS 71)) (defScope (topS 71)) .none kV dc pm an cd ct), sl⟩) (c : PySem.W.codeIn K cd "_law_text" = true) (k : PySem.W.keepIn K (.ref f) = true) (next : Tie K mg f d52 (topS 71) → goal) : goal := next (tie52 X G a l c k)
theorem with53 {goal : Prop} {K : PySem.W.Frag} {mg : Str → Option Value} {h : Heap} {f : Addr} {od an : Option Addr} {sl : Array (Option Value)} {oc kV dc pm cd ct : Value} (X : K.In h) (G : h.Ns mainGlobals mg)
    (a : PySem.W.nsIn K mainGlobals "_law_right" = some (some (.ref f))) (l : K.lookup f = some ⟨oc, od, .func (PySem.W.fnOf "_law_right" "_law_right" (defArgs (topS 72)) (defBody (topS 72)) (defScope (topS 72)) .none kV dc pm an cd ct), sl⟩) (c : PySem.W.codeIn K cd "_law_right" = true) (k : PySem.W.keepIn K (.ref f) = true) (next : Tie K mg f d53 (topS 72) → goal) : goal := next (tie53 X G a l c k)
theorem with54 {goal : Prop} {K : PySem.W.Frag} {mg : Str → Option Value} {h : Heap} {f : Addr} {od an : Option Addr} {sl : Array (Option Value)} {oc kV dc pm cd ct : Value} (X : K.In h) (G : h.Ns mainGlobals mg)
    (a : PySem.W.nsIn K mainGlobals "_law_size" = some (some (.ref f))) (l : K.lookup f = some ⟨oc, od, .func (PySem.W.fnOf "_law_size" "_law_size" (defArgs (topS 73)) (defBody (topS 73)) (defScope (topS 73)) .none kV dc pm an cd ct), sl⟩) (c : PySem.W.codeIn K cd "_law_size" = true) (k : PySem.W.keepIn K (.ref f) = true) (next : Tie K mg f d54 (topS 73) → goal) : goal := next (tie54 X G a l c k)
theorem with55 {goal : Prop} {K : PySem.W.Frag} {mg : Str → Option Value} {h : Heap} {f : Addr} {od an : Option Addr} {sl : Array (Option Value)} {oc kV dc pm cd ct : Value} (X : K.In h) (G : h.Ns mainGlobals mg)
    (a : PySem.W.nsIn K mainGlobals "_law_good" = some (some (.ref f))) (l : K.lookup f = some ⟨oc, od, .func (PySem.W.fnOf "_law_good" "_law_good" (defArgs (topS 74)) (defBody (topS 74)) (defScope (topS 74)) .none kV dc pm an cd ct), sl⟩) (c : PySem.W.codeIn K cd "_law_good" = true) (k : PySem.W.keepIn K (.ref f) = true) (next : Tie K mg f d55 (topS 74) → goal) : goal := next (tie55 X G a l c k)
theorem withC0 {goal : Prop} {K : PySem.W.Frag} {mg : Str → Option Value} {h : Heap} {u : Tok} (X : K.In h) (G : h.Ns mainGlobals mg) (a : PySem.W.nsIn K mainGlobals "SMALL" = some (some (.str "abcdefghijklmnopqrstuvwxyz" u))) (next : (∃ u, mg "SMALL" = some (.str "abcdefghijklmnopqrstuvwxyz" u)) → goal) : goal := next ⟨u, PySem.W.mg_of X G a⟩
theorem withC1 {goal : Prop} {K : PySem.W.Frag} {mg : Str → Option Value} {h : Heap} {u : Tok} (X : K.In h) (G : h.Ns mainGlobals mg) (a : PySem.W.nsIn K mainGlobals "MOST_NAME" = some (some (.int 8 u))) (next : (∃ u, mg "MOST_NAME" = some (.int 8 u)) → goal) : goal := next ⟨u, PySem.W.mg_of X G a⟩
theorem withC2 {goal : Prop} {K : PySem.W.Frag} {mg : Str → Option Value} {h : Heap} {u : Tok} (X : K.In h) (G : h.Ns mainGlobals mg) (a : PySem.W.nsIn K mainGlobals "MOST_PARTS" = some (some (.int 3 u))) (next : (∃ u, mg "MOST_PARTS" = some (.int 3 u)) → goal) : goal := next ⟨u, PySem.W.mg_of X G a⟩
theorem withC3 {goal : Prop} {K : PySem.W.Frag} {mg : Str → Option Value} {h : Heap} {u : Tok} (X : K.In h) (G : h.Ns mainGlobals mg) (a : PySem.W.nsIn K mainGlobals "MOST_RULES" = some (some (.int 5 u))) (next : (∃ u, mg "MOST_RULES" = some (.int 5 u)) → goal) : goal := next ⟨u, PySem.W.mg_of X G a⟩
theorem withC4 {goal : Prop} {K : PySem.W.Frag} {mg : Str → Option Value} {h : Heap} {u : Tok} (X : K.In h) (G : h.Ns mainGlobals mg) (a : PySem.W.nsIn K mainGlobals "DIGITS" = some (some (.str "0123456789" u))) (next : (∃ u, mg "DIGITS" = some (.str "0123456789" u)) → goal) : goal := next ⟨u, PySem.W.mg_of X G a⟩
theorem withC5 {goal : Prop} {K : PySem.W.Frag} {mg : Str → Option Value} {h : Heap} {u : Tok} (X : K.In h) (G : h.Ns mainGlobals mg) (a : PySem.W.nsIn K mainGlobals "MOST_DIGITS" = some (some (.int 6 u))) (next : (∃ u, mg "MOST_DIGITS" = some (.int 6 u)) → goal) : goal := next ⟨u, PySem.W.mg_of X G a⟩
theorem withC6 {goal : Prop} {K : PySem.W.Frag} {mg : Str → Option Value} {h : Heap} {u : Tok} (X : K.In h) (G : h.Ns mainGlobals mg) (a : PySem.W.nsIn K mainGlobals "BLANK" = some (some (.str " " u))) (next : (∃ u, mg "BLANK" = some (.str " " u)) → goal) : goal := next ⟨u, PySem.W.mg_of X G a⟩
theorem withC7 {goal : Prop} {K : PySem.W.Frag} {mg : Str → Option Value} {h : Heap} {u : Tok} (X : K.In h) (G : h.Ns mainGlobals mg) (a : PySem.W.nsIn K mainGlobals "TO" = some (some (.str " to " u))) (next : (∃ u, mg "TO" = some (.str " to " u)) → goal) : goal := next ⟨u, PySem.W.mg_of X G a⟩
theorem withC8 {goal : Prop} {K : PySem.W.Frag} {mg : Str → Option Value} {h : Heap} {u : Tok} (X : K.In h) (G : h.Ns mainGlobals mg) (a : PySem.W.nsIn K mainGlobals "BETWEEN" = some (some (.str "; " u))) (next : (∃ u, mg "BETWEEN" = some (.str "; " u)) → goal) : goal := next ⟨u, PySem.W.mg_of X G a⟩
theorem withC9 {goal : Prop} {K : PySem.W.Frag} {mg : Str → Option Value} {h : Heap} {u : Tok} (X : K.In h) (G : h.Ns mainGlobals mg) (a : PySem.W.nsIn K mainGlobals "NOTHING" = some (some (.str "-" u))) (next : (∃ u, mg "NOTHING" = some (.str "-" u)) → goal) : goal := next ⟨u, PySem.W.mg_of X G a⟩
theorem withB {goal : Prop} {K : PySem.W.Frag} {mg : Str → Option Value} {h : Heap} (X : K.In h) (G : h.Ns mainGlobals mg) (b0 : PySem.W.nsIn K mainGlobals "len" = some none) (b1 : PySem.W.nsIn K mainGlobals "tuple" = some none) (b2 : PySem.W.nsIn K mainGlobals "list" = some none) (b3 : PySem.W.nsIn K mainGlobals "sum" = some none) (b4 : PySem.W.nsIn K mainGlobals "all" = some none) (b5 : PySem.W.nsIn K mainGlobals "any" = some none) (b6 : PySem.W.nsIn K mainGlobals "abs" = some none) (b7 : PySem.W.nsIn K mainGlobals "int" = some none) (b8 : PySem.W.nsIn K mainGlobals "str" = some none) (b9 : PySem.W.nsIn K mainGlobals "min" = some none) (b10 : PySem.W.nsIn K mainGlobals "max" = some none) (b11 : PySem.W.nsIn K mainGlobals "isinstance" = some none) (b12 : PySem.W.nsIn K mainGlobals "bool" = some none) (b13 : PySem.W.nsIn K mainGlobals "enumerate" = some none) (b14 : PySem.W.nsIn K mainGlobals "zip" = some none) (b15 : PySem.W.nsIn K mainGlobals "range" = some none) (b16 : PySem.W.nsIn K mainGlobals "sorted" = some none) (b17 : PySem.W.nsIn K mainGlobals "set" = some none) (b18 : PySem.W.nsIn K mainGlobals "dict" = some none) (next : (∀ x ∈ builtinNames, mg x = none) → goal) : goal := by
  refine next fun x hx => ?_
  simp only [builtinNames, List.mem_cons, List.mem_nil_iff, or_false] at hx
  rcases hx with rfl | rfl | rfl | rfl | rfl | rfl | rfl | rfl | rfl | rfl | rfl | rfl | rfl | rfl | rfl | rfl | rfl | rfl | rfl
  · exact PySem.W.mg_none_of X G b0
  · exact PySem.W.mg_none_of X G b1
  · exact PySem.W.mg_none_of X G b2
  · exact PySem.W.mg_none_of X G b3
  · exact PySem.W.mg_none_of X G b4
  · exact PySem.W.mg_none_of X G b5
  · exact PySem.W.mg_none_of X G b6
  · exact PySem.W.mg_none_of X G b7
  · exact PySem.W.mg_none_of X G b8
  · exact PySem.W.mg_none_of X G b9
  · exact PySem.W.mg_none_of X G b10
  · exact PySem.W.mg_none_of X G b11
  · exact PySem.W.mg_none_of X G b12
  · exact PySem.W.mg_none_of X G b13
  · exact PySem.W.mg_none_of X G b14
  · exact PySem.W.mg_none_of X G b15
  · exact PySem.W.mg_none_of X G b16
  · exact PySem.W.mg_none_of X G b17
  · exact PySem.W.mg_none_of X G b18
/-- the law's own def, all else being tied -/
theorem head_ok {prog : Program} {w : World} {K : PySem.W.Frag} {mg : Str → Option Value} {h : Heap} {fa : Addr} {f0 f1 f2 f3 f4 f5 f6 f7 f8 f9 f10 f11 f12 f13 f14 f15 f16 f17 f18 f19 f20 f21 f22 f23 f24 f25 f26 f27 f28 f29 f30 f31 f32 f33 f34 f35 f36 f37 f38 f39 f40 f41 f42 f43 f44 f45 f46 f47 f48 f49 f50 f51 f52 f53 f54 f55 C0 : Addr} (pure : ∀ ns : List Int, ns.length ≤ 63 → ∃ out, callD prg.defs wf0 228 56 [.lst (ns.map D.int)] = .ok (.bl true) out) (X : K.In h) (G : h.Ns mainGlobals mg) (hfa : mg "law" = some (.ref fa)) (nm : ∀ x ∈ builtinNames, mg x = none)
    (t0 : Tie K mg f0 d0 (topS 4)) (t1 : Tie K mg f1 d1 (topS 5)) (t2 : Tie K mg f2 d2 (topS 6)) (t3 : Tie K mg f3 d3 (topS 7)) (t4 : Tie K mg f4 d4 (topS 8)) (t5 : Tie K mg f5 d5 (topS 13)) (t6 : Tie K mg f6 d6 (topS 14)) (t7 : Tie K mg f7 d7 (topS 17)) (t8 : Tie K mg f8 d8 (topS 18)) (t9 : Tie K mg f9 d9 (topS 19)) (t10 : Tie K mg f10 d10 (topS 27)) (t11 : Tie K mg f11 d11 (topS 28)) (t12 : Tie K mg f12 d12 (topS 29)) (t13 : Tie K mg f13 d13 (topS 30)) (t14 : Tie K mg f14 d14 (topS 31)) (t15 : Tie K mg f15 d15 (topS 32)) (t16 : Tie K mg f16 d16 (topS 33)) (t17 : Tie K mg f17 d17 (topS 34)) (t18 : Tie K mg f18 d18 (topS 35)) (t19 : Tie K mg f19 d19 (topS 36)) (t20 : Tie K mg f20 d20 (topS 37)) (t21 : Tie K mg f21 d21 (topS 38)) (t22 : Tie K mg f22 d22 (topS 39)) (t23 : Tie K mg f23 d23 (topS 40)) (t24 : Tie K mg f24 d24 (topS 41)) (t25 : Tie K mg f25 d25 (topS 42)) (t26 : Tie K mg f26 d26 (topS 43)) (t27 : Tie K mg f27 d27 (topS 44)) (t28 : Tie K mg f28 d28 (topS 45)) (t29 : Tie K mg f29 d29 (topS 46)) (t30 : Tie K mg f30 d30 (topS 47)) (t31 : Tie K mg f31 d31 (topS 48)) (t32 : Tie K mg f32 d32 (topS 49)) (t33 : Tie K mg f33 d33 (topS 50)) (t34 : Tie K mg f34 d34 (topS 51)) (t35 : Tie K mg f35 d35 (topS 52)) (t36 : Tie K mg f36 d36 (topS 53)) (t37 : Tie K mg f37 d37 (topS 55)) (t38 : Tie K mg f38 d38 (topS 56)) (t39 : Tie K mg f39 d39 (topS 57)) (t40 : Tie K mg f40 d40 (topS 58)) (t41 : Tie K mg f41 d41 (topS 59)) (t42 : Tie K mg f42 d42 (topS 61)) (t43 : Tie K mg f43 d43 (topS 62)) (t44 : Tie K mg f44 d44 (topS 63)) (t45 : Tie K mg f45 d45 (topS 64)) (t46 : Tie K mg f46 d46 (topS 65)) (t47 : Tie K mg f47 d47 (topS 66)) (t48 : Tie K mg f48 d48 (topS 67)) (t49 : Tie K mg f49 d49 (topS 68)) (t50 : Tie K mg f50 d50 (topS 69)) (t51 : Tie K mg f51 d51 (topS 70)) (t52 : Tie K mg f52 d52 (topS 71)) (t53 : Tie K mg f53 d53 (topS 72)) (t54 : Tie K mg f54 d54 (topS 73)) (t55 : Tie K mg f55 d55 (topS 74))
    (c0 : Cls0 K mg C0)
    (v0 : ∃ u, mg "SMALL" = some (.str "abcdefghijklmnopqrstuvwxyz" u)) (v1 : ∃ u, mg "MOST_NAME" = some (.int 8 u)) (v2 : ∃ u, mg "MOST_PARTS" = some (.int 3 u)) (v3 : ∃ u, mg "MOST_RULES" = some (.int 5 u)) (v4 : ∃ u, mg "DIGITS" = some (.str "0123456789" u)) (v5 : ∃ u, mg "MOST_DIGITS" = some (.int 6 u)) (v6 : ∃ u, mg "BLANK" = some (.str " " u)) (v7 : ∃ u, mg "TO" = some (.str " to " u)) (v8 : ∃ u, mg "BETWEEN" = some (.str "; " u)) (v9 : ∃ u, mg "NOTHING" = some (.str "-" u))
    {f56 : Addr} {od an : Option Addr} {sl : Array (Option Value)} {oc kV dc pm cd ct : Value} (a : PySem.W.nsIn K mainGlobals "law" = some (some (.ref f56))) (l : K.lookup f56 = some ⟨oc, od, .func (PySem.W.fnOf "law" "law" (defArgs (topS 75)) (defBody (topS 75)) (defScope (topS 75)) .none kV dc pm an cd ct), sl⟩) (c : PySem.W.codeIn K cd "law" = true) (k : PySem.W.keepIn K (.ref f56) = true) :
    ∃ fd : FuncData, (∀ (s : Shared) (v : Value), BindsTo s fd ⟨[v], []⟩ [("script", v)]) ∧ ∀ base : Heap, K.In base → base.Ns mainGlobals mg → FnOk prog w K mg base (L2.CX prog w) (228 + 2) fa fd ["script"] (spLaw K) := by
  have e := hfa.symm.trans (PySem.W.mg_of X G a)
  cases e
  have F := fun_mk (st := topS 75) l c k
  refine ⟨PySem.W.fnOf "law" "law" (defArgs (topS 75)) (defBody (topS 75)) (defScope (topS 75)) .none kV dc pm an cd ct, fun s v => .of_eq rfl, fun base _ _ => ?_⟩
  have L := lk (prog := prog) (w := w) (base := base) nm t0 t1 t2 t3 t4 t5 t6 t7 t8 t9 t10 t11 t12 t13 t14 t15 t16 t17 t18 t19 t20 t21 t22 t23 t24 t25 t26 t27 t28 t29 t30 t31 t32 t33 t34 t35 t36 t37 t38 t39 t40 t41 t42 t43 t44 t45 t46 t47 t48 t49 t50 t51 t52 t53 t54 t55 (tie56 X G a l c k) c0 v0 v1 v2 v3 v4 v5 v6 v7 v8 v9
  refine (defs_ok (wf := wf0) L 228 56 d56 rfl _ _ "law" (topS 75) rfl hfa k F sc56 (F.binds fun _ _ _ _ _ _ us hl => match us, hl with | [_], _ => rfl) chk56 (by decide)).imp fun vs H Q E hv => ?_
  obtain ⟨a, ns, rfl, hl, hS, hQ⟩ := hv
  exact law_spD hS (pure ns hl) rfl rfl rfl hQ
end K49
end
section
set_option autoImplicit false
/-! P49a: first defs. -/
namespace K49
open PySem EV
abbrev C (n f : Nat) (ds : List D) : CR := callD prg.defs wf0 n f ds
theorem C_succ {n f : Nat} {di : DefI} {ds : List D} (h : prg.defs[f]? = some di) : C (n + 1) f ds = runDef (C n) wf0 di ds := by
  show (match prg.defs[f]? with | some di => runDef (callD prg.defs wf0 n) wf0 di ds | none => .bad) = _
  rw [h]
theorem is_number_ok (n : Nat) (i : Int) : C (n + 1) 0 [.int i] = .ok (.bl true) (.int i) := by
  rw [C_succ (di := d0) rfl]
  rfl
theorem is_from_ok (n : Nat) (i j : Int) : C (n + 2) 1 [.int i, .int j] = .ok (.bl (decide (j ≤ i))) (.int i) := by
  rw [C_succ (di := d1) rfl]
  refine run_of (ρ := [some (.int i), some (.int j)]) rfl ?_
  show evSs (C (n + 1)) wf0 d1.body [some (.int i), some (.int j)] = _
  unfold d1
  simp only [EV.v_lit, EV.v_var, EV.v_glob, EV.v_fn, EV.v_un, EV.v_bin, EV.v_slL, EV.v_slH, EV.v_slLH, EV.v_tup, EV.v_lst, EV.v_and, EV.v_or, EV.v_not, EV.v_ite, EV.v_chain, EV.v_call, EV.v_callF, EV.v_callIo, EV.v_callT, EV.v_callv, EV.v_nil, EV.v_cons, EV.v_seq, EV.v_enum, EV.v_zip, EV.v_rng1, EV.v_C, s_asg', s_asgO', s_asg2', s_expr', s_ret', s_retN', s_if', s_raise', ss_nil', ss_cons', r_ok, r_exc, r_opt, t_nm, cr_ok, cr_exc, cr_okS, List.getD_cons_zero, List.getD_cons_succ, List.set_cons_zero, List.set_cons_succ, B.pre, B.ev, Cm.ev, U.ev, D.truth, D.toInt, D.items, if_true, if_false, Bool.not_true, Bool.not_false, reduceCtorEq, Option.map_some, Option.bind_some, List.length_cons, List.length_nil, Nat.zero_add, Nat.reduceAdd, Nat.reduceLT, Nat.reduceLeDiff, Bool.and_true, Bool.true_and, decide_true, is_number_ok]
end K49
end
section
set_option autoImplicit false
/-! P49b: terms, their writers. -/
namespace K49
open PySem EV
/-! ### lists in turn -/
theorem compGo_map {f : D → EV.Env → R (Option D)} {g : D → D} {ρ : EV.Env} : ∀ {xs : List D}, (∀ x ∈ xs, f x ρ = .ok (some (g x)) ρ) → compGo f xs ρ = .ok (xs.map g) ρ
  | [], _ => rfl
  | x :: xs, h => by
    show (f x ρ).bind _ = _
    rw [h x List.mem_cons_self]
    show (compGo f xs ρ).bind _ = _
    rw [compGo_map fun y hy => h y (List.mem_cons_of_mem _ hy)]
    rfl
/-- over the images of a list -/
theorem compGo_im {α : Type} {f : D → EV.Env → R (Option D)} {e : α → D} {g : α → D} {ρ : EV.Env} : ∀ {xs : List α}, (∀ x ∈ xs, f (e x) ρ = .ok (some (g x)) ρ) → compGo f (xs.map e) ρ = .ok (xs.map g) ρ
  | [], _ => rfl
  | x :: xs, h => by
    show (f (e x) ρ).bind _ = _
    rw [h x List.mem_cons_self]
    show (compGo f (xs.map e) ρ).bind _ = _
    rw [compGo_im fun y hy => h y (List.mem_cons_of_mem _ hy)]
    rfl
theorem bls_map {α : Type} (g : α → Bool) : ∀ xs : List α, D.bls (xs.map fun x => .bl (g x)) = some (xs.map g)
  | [] => rfl
  | x :: xs => by
    show (D.bls (xs.map _)).map _ = _
    rw [bls_map g xs]
    rfl
theorem ints_map {α : Type} (g : α → Int) : ∀ xs : List α, D.ints (xs.map fun x => .int (g x)) = some (xs.map g)
  | [] => rfl
  | x :: xs => by
    show (D.ints (xs.map _)).map _ = _
    rw [ints_map g xs]
    rfl
theorem strs_map {α : Type} (g : α → List Nat) : ∀ xs : List α, D.strs (xs.map fun x => .str (g x)) = some (xs.map g)
  | [] => rfl
  | x :: xs => by
    show (D.strs (xs.map _)).map _ = _
    rw [strs_map g xs]
    rfl
theorem all_true {α : Type} {g : α → Bool} {xs : List α} (h : ∀ x ∈ xs, g x = true) : (xs.map g).all id = true := by
  rw [List.all_map]
  exact List.all_eq_true.mpr h

/-! ### terms -/
inductive T where
  | mk (nm : List Nat) (ps : List T)
def small (c : Nat) : Bool := decide (97 ≤ c) && decide (c ≤ 122)
def okName (s : List Nat) : Prop := 1 ≤ s.length ∧ s.length ≤ 8 ∧ ∀ c ∈ s, small c = true
def T.D : T → EV.D
  | .mk nm ps => .tup (.str nm :: ps.attach.map fun ⟨p, _⟩ => T.D p)
theorem T.D_mk (nm : List Nat) (ps : List T) : (T.mk nm ps).D = .tup (.str nm :: ps.map T.D) := by
  rw [T.D]
  simp
def T.text : T → List Nat
  | .mk nm ps => if ps.isEmpty then nm else nm ++ [40] ++ TL.joinL [44] (ps.attach.map fun ⟨p, _⟩ => T.text p) ++ [41]
theorem T.text_mk (nm : List Nat) (ps : List T) : (T.mk nm ps).text = if ps.isEmpty then nm else nm ++ [40] ++ TL.joinL [44] (ps.map T.text) ++ [41] := by
  rw [T.text]
  simp
def T.size : T → Nat
  | .mk _ ps => 1 + (ps.attach.map fun ⟨p, _⟩ => T.size p).sum
theorem T.size_mk (nm : List Nat) (ps : List T) : (T.mk nm ps).size = 1 + (ps.map T.size).sum := by
  rw [T.size]
  simp
inductive T.Ok : Nat → T → Prop
  | mk {k : Nat} {nm : List Nat} {ps : List T} : okName nm → ps.length ≤ 3 → (∀ p ∈ ps, T.Ok k p) → T.Ok (k + 1) (.mk nm ps)
theorem T.Ok.mono {k j : Nat} {t : T} (h : T.Ok k t) (hj : k ≤ j) : T.Ok j t := by
  induction h generalizing j with
  | mk h1 h2 h3 ih =>
    cases j with
    | zero => omega
    | succ j => exact .mk h1 h2 fun p hp => ih p hp (by omega)

def abc : List Nat := [97, 98, 99, 100, 101, 102, 103, 104, 105, 106, 107, 108, 109, 110, 111, 112, 113, 114, 115, 116, 117, 118, 119, 120, 121, 122]
theorem mem_abc (c : Nat) : decide (c ∈ abc) = small c := by
  unfold small abc
  rw [Bool.eq_iff_iff]
  simp only [List.mem_cons, List.mem_nil_iff, or_false, decide_eq_true_eq, Bool.and_eq_true]
  omega

theorem slice_tl (x : D) (xs : List D) : D.slice (.tup (x :: xs)) (some 1) none = some (.tup xs) := by
  show some (D.tup (cut (x :: xs) (some 1) none)) = _
  unfold cut HT.sIx
  simp
theorem len_le {n : Nat} (h : n ≤ 1000) : n ≤ sizeLine := Nat.le_of_lt (L2.small1000 h)
theorem len_small {s : List Nat} (h : s.length ≤ 1000) : s.length ≤ sizeLine := Nat.le_of_lt (L2.small1000 h)
theorem is_name_ok (n : Nat) {s : List Nat} (h : okName s) : C (n + 1) 5 [.str s] = .ok (.bl true) (.str s) := by
  obtain ⟨h1, h2, h3⟩ := h
  have hz : s.length ≤ sizeLine := len_small (by omega)
  have i1 : (1 : Int) ≤ (s.length : Int) := by omega
  have i2 : (s.length : Int) ≤ 8 := by omega
  have hk : evE (C n) (.comp [("sign", 1)] (.nm 1) (.seq (.var 0)) (.bin (.cmp .isin) (.var 1) (.glob "SMALL" (.str abc)))) [some (.str s), none] = .ok (.lst (s.map fun c => .bl (small c))) [some (.str s), none] := by
    rw [v_comp]
    simp only [EV.v_lit, EV.v_var, EV.v_glob, EV.v_fn, EV.v_un, EV.v_bin, EV.v_slL, EV.v_slH, EV.v_slLH, EV.v_tup, EV.v_lst, EV.v_and, EV.v_or, EV.v_not, EV.v_ite, EV.v_chain, EV.v_call, EV.v_callF, EV.v_callIo, EV.v_callT, EV.v_callv, EV.v_nil, EV.v_cons, EV.v_seq, EV.v_enum, EV.v_zip, EV.v_rng1, EV.v_C, s_asg', s_asgO', s_asg2', s_expr', s_ret', s_retN', s_if', s_raise', ss_nil', ss_cons', r_ok, r_exc, r_opt, t_nm, cr_ok, cr_exc, cr_okS, List.getD_cons_zero, List.getD_cons_succ, List.set_cons_zero, List.set_cons_succ, B.pre, B.ev, Cm.ev, U.ev, D.truth, D.toInt, D.items, if_true, if_false, Bool.not_true, Bool.not_false, reduceCtorEq, Option.map_some, Option.bind_some, List.length_cons, List.length_nil, Nat.zero_add, Nat.reduceAdd, Nat.reduceLT, Nat.reduceLeDiff, Bool.and_true, Bool.true_and, decide_true]
    rw [if_pos (by rw [List.length_map]; exact hz)]
    show (compGo _ _ [some (.str s), none]).bind _ = _
    rw [compGo_im (g := fun c => .bl (small c)) fun c hc => ?_]
    · rfl
    · simp [compF, R.calm, R.opt, R.bind, Tg.bind, evE, B.pre, B.ev, Cm.ev, wipeE, mem_abc]
  have hb : D.bls (s.map fun c => .bl (small c)) = some (s.map small) := bls_map small s
  have ht : (s.map small).all id = true := all_true h3
  rw [C_succ (di := d5) rfl]
  refine run_of (ρ := [some (.str s), none]) rfl ?_
  show evSs (C n) wf0 d5.body [some (.str s), none] = _
  unfold d5
  unfold abc at hk
  simp only [EV.v_lit, EV.v_var, EV.v_glob, EV.v_fn, EV.v_un, EV.v_bin, EV.v_slL, EV.v_slH, EV.v_slLH, EV.v_tup, EV.v_lst, EV.v_and, EV.v_or, EV.v_not, EV.v_ite, EV.v_chain, EV.v_call, EV.v_callF, EV.v_callIo, EV.v_callT, EV.v_callv, EV.v_nil, EV.v_cons, EV.v_seq, EV.v_enum, EV.v_zip, EV.v_rng1, EV.v_C, s_asg', s_asgO', s_asg2', s_expr', s_ret', s_retN', s_if', s_raise', ss_nil', ss_cons', r_ok, r_exc, r_opt, t_nm, cr_ok, cr_exc, cr_okS, List.getD_cons_zero, List.getD_cons_succ, List.set_cons_zero, List.set_cons_succ, B.pre, B.ev, Cm.ev, U.ev, D.truth, D.toInt, D.items, if_true, if_false, Bool.not_true, Bool.not_false, reduceCtorEq, Option.map_some, Option.bind_some, List.length_cons, List.length_nil, Nat.zero_add, Nat.reduceAdd, Nat.reduceLT, Nat.reduceLeDiff, Bool.and_true, Bool.true_and, decide_true, hk, hz, D.isa, D.ty, i1, i2, decide_true, hb, ht, beq_self_eq_true]

theorem comp_one {α : Type} {c : Nat → List D → CR} {nm : Str} {i : Nat} {it : It} {elt : E} {ρ : EV.Env} {xs : List α} {e g : α → D} (hit : evIt c it ρ = .ok (xs.map e) ρ) (hi : i < ρ.length) (hl : xs.length ≤ sizeLine)
    (h : ∀ x ∈ xs, evE c elt (ρ.set i (some (e x))) = .ok (g x) (ρ.set i (some (e x)))) : evE c (.comp [(nm, i)] (.nm i) it elt) ρ = .ok (.lst (xs.map g)) ρ := by
  rw [v_comp, hit]
  show (if (xs.map e).length ≤ sizeLine then _ else _) = _
  rw [if_pos (by rw [List.length_map]; exact hl)]
  show (compGo _ _ (ρ.set i none)).bind _ = _
  rw [compGo_im (g := g) fun x hx => ?_]
  · show R.ok (D.lst _) ((ρ.set i none).set i (ρ.getD i none)) = _
    rw [List.set_set]
    congr 1
    rw [List.getD_eq_getElem?_getD, List.getElem?_eq_getElem hi]
    exact List.set_getElem_self hi
  · show R.calm ((R.opt (ρ.set i none) ((Tg.nm i).bind (e x) (ρ.set i none))).bind _) = _
    rw [t_nm, if_pos (by rw [List.length_set]; exact hi), List.set_set]
    show R.calm ((evE c elt (ρ.set i (some (e x)))).bind _) = _
    rw [h x hx]
    show R.ok _ ((ρ.set i (some (e x))).set i none) = _
    rw [List.set_set]
theorem compGo_if {α : Type} {f : D → EV.Env → R (Option D)} {e : α → D} {g : α → D} {p : α → Bool} {ρ : EV.Env} : ∀ {xs : List α}, (∀ x ∈ xs, f (e x) ρ = .ok (if p x then some (g x) else none) ρ) → compGo f (xs.map e) ρ = .ok ((xs.filter p).map g) ρ
  | [], _ => rfl
  | x :: xs, h => by
    show (f (e x) ρ).bind _ = _
    rw [h x List.mem_cons_self]
    show (compGo f (xs.map e) ρ).bind _ = _
    rw [compGo_if fun y hy => h y (List.mem_cons_of_mem _ hy)]
    show R.ok _ _ = _
    cases hp : p x with
    | true => rw [List.filter_cons_of_pos hp]; rfl
    | false => rw [List.filter_cons_of_neg (by rw [hp]; exact Bool.false_ne_true)]; rfl
theorem comp_two {α : Type} {c : Nat → List D → CR} {nm : Str} {i : Nat} {it : It} {cnd elt : E} {ρ : EV.Env} {xs : List α} {e g : α → D} {p : α → Bool} (hit : evIt c it ρ = .ok (xs.map e) ρ) (hi : i < ρ.length) (hl : xs.length ≤ sizeLine)
    (hc : ∀ x ∈ xs, evE c cnd (ρ.set i (some (e x))) = .ok (.bl (p x)) (ρ.set i (some (e x)))) (h : ∀ x ∈ xs, p x = true → evE c elt (ρ.set i (some (e x))) = .ok (g x) (ρ.set i (some (e x)))) : evE c (.compIf [(nm, i)] (.nm i) it cnd elt) ρ = .ok (.lst ((xs.filter p).map g)) ρ := by
  show (evIt c it ρ).bind _ = _
  rw [hit]
  show (if (xs.map e).length ≤ sizeLine then _ else _) = _
  rw [if_pos (by rw [List.length_map]; exact hl)]
  show (compGo _ _ (ρ.set i none)).bind _ = _
  rw [compGo_if (g := g) (p := p) fun x hx => ?_]
  · show R.ok (D.lst _) ((ρ.set i none).set i (ρ.getD i none)) = _
    rw [List.set_set]
    congr 1
    rw [List.getD_eq_getElem?_getD, List.getElem?_eq_getElem hi]
    exact List.set_getElem_self hi
  · show R.calm ((R.opt (ρ.set i none) ((Tg.nm i).bind (e x) (ρ.set i none))).bind _) = _
    rw [t_nm, if_pos (by rw [List.length_set]; exact hi), List.set_set]
    show R.calm (((evE c cnd (ρ.set i (some (e x)))).bind fun d ρ => R.opt ρ d.truth).bind _) = _
    rw [hc x hx]
    show R.calm (if p x = true then _ else _) = _
    cases hp : p x with
    | true =>
      rw [if_pos rfl, h x hx hp]
      show R.ok _ ((ρ.set i (some (e x))).set i none) = _
      rw [List.set_set]
      rfl
    | false =>
      rw [if_neg Bool.false_ne_true]
      show R.ok _ ((ρ.set i (some (e x))).set i none) = _
      rw [List.set_set]
      rfl
theorem at0 {x : D} {xs : List D} : L2.atI (x :: xs) 0 = some x := by
  unfold L2.atI L2.ixN
  simp
theorem is_term_ok : ∀ {k : Nat} {t : T}, T.Ok k t → ∀ n, C (n + k + 1) 6 [t.D] = .ok (.bl true) t.D := by
  intro k t h
  induction h with
  | @mk k nm ps h1 h2 h3 ih =>
    intro n
    rw [T.D_mk]
    have hk : evE (C (n + k + 1)) (.comp [("part", 1)] (.nm 1) (.seq (.slL (.var 0) (.lit (.int 1)))) (.call false false 6 (.cons (.var 1) .nil))) [some (.tup (.str nm :: ps.map T.D)), none] = .ok (.lst (ps.map fun _ => .bl true)) [some (.tup (.str nm :: ps.map T.D)), none] := by
      refine comp_one (xs := ps) (e := T.D) (g := fun _ => .bl true) ?_ (by simp) (len_le (by omega)) fun p hp => ?_
      · simp only [EV.v_lit, EV.v_var, EV.v_glob, EV.v_fn, EV.v_un, EV.v_bin, EV.v_slL, EV.v_slH, EV.v_slLH, EV.v_tup, EV.v_lst, EV.v_and, EV.v_or, EV.v_not, EV.v_ite, EV.v_chain, EV.v_call, EV.v_callF, EV.v_callIo, EV.v_callT, EV.v_callv, EV.v_nil, EV.v_cons, EV.v_seq, EV.v_enum, EV.v_zip, EV.v_rng1, EV.v_C, s_asg', s_asgO', s_asg2', s_expr', s_ret', s_retN', s_if', s_raise', ss_nil', ss_cons', r_ok, r_exc, r_opt, t_nm, cr_ok, cr_exc, cr_okS, List.getD_cons_zero, List.getD_cons_succ, List.set_cons_zero, List.set_cons_succ, B.pre, B.ev, Cm.ev, U.ev, D.truth, D.toInt, D.items, if_true, if_false, Bool.not_true, Bool.not_false, reduceCtorEq, Option.map_some, Option.bind_some, List.length_cons, List.length_nil, Nat.zero_add, Nat.reduceAdd, Nat.reduceLT, Nat.reduceLeDiff, Bool.and_true, Bool.true_and, decide_true, slice_tl]
      · simp only [EV.v_lit, EV.v_var, EV.v_glob, EV.v_fn, EV.v_un, EV.v_bin, EV.v_slL, EV.v_slH, EV.v_slLH, EV.v_tup, EV.v_lst, EV.v_and, EV.v_or, EV.v_not, EV.v_ite, EV.v_chain, EV.v_call, EV.v_callF, EV.v_callIo, EV.v_callT, EV.v_callv, EV.v_nil, EV.v_cons, EV.v_seq, EV.v_enum, EV.v_zip, EV.v_rng1, EV.v_C, s_asg', s_asgO', s_asg2', s_expr', s_ret', s_retN', s_if', s_raise', ss_nil', ss_cons', r_ok, r_exc, r_opt, t_nm, cr_ok, cr_exc, cr_okS, List.getD_cons_zero, List.getD_cons_succ, List.set_cons_zero, List.set_cons_succ, B.pre, B.ev, Cm.ev, U.ev, D.truth, D.toInt, D.items, if_true, if_false, Bool.not_true, Bool.not_false, reduceCtorEq, Option.map_some, Option.bind_some, List.length_cons, List.length_nil, Nat.zero_add, Nat.reduceAdd, Nat.reduceLT, Nat.reduceLeDiff, Bool.and_true, Bool.true_and, decide_true, ih p hp n]
    have hb : D.bls (ps.map fun _ => .bl true) = some (ps.map fun _ => true) := bls_map (fun _ => true) ps
    have ht : (ps.map fun _ => true).all id = true := all_true fun _ _ => rfl
    have i1 : (1 : Int) ≤ ((ps.length + 1 : Nat) : Int) := by omega
    have i2 : ((ps.length + 1 : Nat) : Int) ≤ 3 + 1 := by omega
    show C (n + k + 1 + 1) 6 _ = _
    rw [C_succ (di := d6) rfl]
    refine run_of (ρ := [some (.tup (.str nm :: ps.map T.D)), none]) rfl ?_
    show evSs (C (n + k + 1)) wf0 d6.body [some (.tup (.str nm :: ps.map T.D)), none] = _
    unfold d6
    simp only [EV.v_lit, EV.v_var, EV.v_glob, EV.v_fn, EV.v_un, EV.v_bin, EV.v_slL, EV.v_slH, EV.v_slLH, EV.v_tup, EV.v_lst, EV.v_and, EV.v_or, EV.v_not, EV.v_ite, EV.v_chain, EV.v_call, EV.v_callF, EV.v_callIo, EV.v_callT, EV.v_callv, EV.v_nil, EV.v_cons, EV.v_seq, EV.v_enum, EV.v_zip, EV.v_rng1, EV.v_C, s_asg', s_asgO', s_asg2', s_expr', s_ret', s_retN', s_if', s_raise', ss_nil', ss_cons', r_ok, r_exc, r_opt, t_nm, cr_ok, cr_exc, cr_okS, List.getD_cons_zero, List.getD_cons_succ, List.set_cons_zero, List.set_cons_succ, B.pre, B.ev, Cm.ev, U.ev, D.truth, D.toInt, D.items, if_true, if_false, Bool.not_true, Bool.not_false, reduceCtorEq, Option.map_some, Option.bind_some, List.length_cons, List.length_nil, Nat.zero_add, Nat.reduceAdd, Nat.reduceLT, Nat.reduceLeDiff, Bool.and_true, Bool.true_and, decide_true, hk, D.isa, D.ty, List.length_map, i1, i2, decide_true, hb, ht, at0, is_name_ok _ h1, beq_self_eq_true]
end K49
end
section
set_option autoImplicit false
/-! P49c: writers. -/
namespace K49
open PySem EV

/-! ### tuple_of leaves tuples as they are -/
inductive Tu : Nat → D → Prop
  | str (k : Nat) (s : List Nat) : Tu k (.str s)
  | int (k : Nat) (i : Int) : Tu k (.int i)
  | tup {k : Nat} {ds : List D} : ds.length ≤ 1000 → (∀ d ∈ ds, Tu k d) → Tu (k + 1) (.tup ds)
theorem Tu.mono {k j : Nat} {d : D} (h : Tu k d) (hj : k ≤ j) : Tu j d := by
  induction h generalizing j with
  | str k s => exact .str j s
  | int k i => exact .int j i
  | tup h1 h2 ih =>
    cases j with
    | zero => omega
    | succ j => exact .tup h1 fun d hd => ih d hd (by omega)
theorem tuple_of_ok : ∀ {k : Nat} {d : D}, Tu k d → ∀ n, C (n + k + 1) 2 [d] = .ok d d := by
  intro k d h
  induction h with
  | str k s =>
    intro n
    rw [C_succ (di := d2) rfl]
    refine run_of (ρ := [some (.str s), none]) rfl ?_
    show evSs (C (n + k)) wf0 d2.body [some (.str s), none] = _
    unfold d2
    simp only [EV.v_lit, EV.v_var, EV.v_glob, EV.v_fn, EV.v_un, EV.v_bin, EV.v_slL, EV.v_slH, EV.v_slLH, EV.v_tup, EV.v_lst, EV.v_and, EV.v_or, EV.v_not, EV.v_ite, EV.v_chain, EV.v_call, EV.v_callF, EV.v_callIo, EV.v_callT, EV.v_callv, EV.v_nil, EV.v_cons, EV.v_seq, EV.v_enum, EV.v_zip, EV.v_rng1, EV.v_C, s_asg', s_asgO', s_asg2', s_expr', s_ret', s_retN', s_if', s_raise', ss_nil', ss_cons', r_ok, r_exc, r_opt, t_nm, cr_ok, cr_exc, cr_okS, List.getD_cons_zero, List.getD_cons_succ, List.set_cons_zero, List.set_cons_succ, B.pre, B.ev, Cm.ev, U.ev, D.truth, D.toInt, D.items, if_true, if_false, Bool.not_true, Bool.not_false, reduceCtorEq, Option.map_some, Option.bind_some, List.length_cons, List.length_nil, Nat.zero_add, Nat.reduceAdd, Nat.reduceLT, Nat.reduceLeDiff, Bool.and_true, Bool.true_and, decide_true, D.isa, D.ty]
    rfl
  | int k i =>
    intro n
    rw [C_succ (di := d2) rfl]
    refine run_of (ρ := [some (.int i), none]) rfl ?_
    show evSs (C (n + k)) wf0 d2.body [some (.int i), none] = _
    unfold d2
    simp only [EV.v_lit, EV.v_var, EV.v_glob, EV.v_fn, EV.v_un, EV.v_bin, EV.v_slL, EV.v_slH, EV.v_slLH, EV.v_tup, EV.v_lst, EV.v_and, EV.v_or, EV.v_not, EV.v_ite, EV.v_chain, EV.v_call, EV.v_callF, EV.v_callIo, EV.v_callT, EV.v_callv, EV.v_nil, EV.v_cons, EV.v_seq, EV.v_enum, EV.v_zip, EV.v_rng1, EV.v_C, s_asg', s_asgO', s_asg2', s_expr', s_ret', s_retN', s_if', s_raise', ss_nil', ss_cons', r_ok, r_exc, r_opt, t_nm, cr_ok, cr_exc, cr_okS, List.getD_cons_zero, List.getD_cons_succ, List.set_cons_zero, List.set_cons_succ, B.pre, B.ev, Cm.ev, U.ev, D.truth, D.toInt, D.items, if_true, if_false, Bool.not_true, Bool.not_false, reduceCtorEq, Option.map_some, Option.bind_some, List.length_cons, List.length_nil, Nat.zero_add, Nat.reduceAdd, Nat.reduceLT, Nat.reduceLeDiff, Bool.and_true, Bool.true_and, decide_true, D.isa, D.ty]
    rfl
  | @tup k ds h1 h2 ih =>
    intro n
    have hk : evE (C (n + k + 1)) (.comp [("part", 1)] (.nm 1) (.seq (.var 0)) (.call false false 2 (.cons (.var 1) .nil))) [some (.tup ds), none] = .ok (.lst (ds.map id)) [some (.tup ds), none] := by
      refine comp_one (xs := ds) (e := id) (g := id) ?_ (by simp) (len_le h1) fun p hp => ?_
      · simp only [EV.v_lit, EV.v_var, EV.v_glob, EV.v_fn, EV.v_un, EV.v_bin, EV.v_slL, EV.v_slH, EV.v_slLH, EV.v_tup, EV.v_lst, EV.v_and, EV.v_or, EV.v_not, EV.v_ite, EV.v_chain, EV.v_call, EV.v_callF, EV.v_callIo, EV.v_callT, EV.v_callv, EV.v_nil, EV.v_cons, EV.v_seq, EV.v_enum, EV.v_zip, EV.v_rng1, EV.v_C, s_asg', s_asgO', s_asg2', s_expr', s_ret', s_retN', s_if', s_raise', ss_nil', ss_cons', r_ok, r_exc, r_opt, t_nm, cr_ok, cr_exc, cr_okS, List.getD_cons_zero, List.getD_cons_succ, List.set_cons_zero, List.set_cons_succ, B.pre, B.ev, Cm.ev, U.ev, D.truth, D.toInt, D.items, if_true, if_false, Bool.not_true, Bool.not_false, reduceCtorEq, Option.map_some, Option.bind_some, List.length_cons, List.length_nil, Nat.zero_add, Nat.reduceAdd, Nat.reduceLT, Nat.reduceLeDiff, Bool.and_true, Bool.true_and, decide_true, List.map_id]
      · simp only [EV.v_lit, EV.v_var, EV.v_glob, EV.v_fn, EV.v_un, EV.v_bin, EV.v_slL, EV.v_slH, EV.v_slLH, EV.v_tup, EV.v_lst, EV.v_and, EV.v_or, EV.v_not, EV.v_ite, EV.v_chain, EV.v_call, EV.v_callF, EV.v_callIo, EV.v_callT, EV.v_callv, EV.v_nil, EV.v_cons, EV.v_seq, EV.v_enum, EV.v_zip, EV.v_rng1, EV.v_C, s_asg', s_asgO', s_asg2', s_expr', s_ret', s_retN', s_if', s_raise', ss_nil', ss_cons', r_ok, r_exc, r_opt, t_nm, cr_ok, cr_exc, cr_okS, List.getD_cons_zero, List.getD_cons_succ, List.set_cons_zero, List.set_cons_succ, B.pre, B.ev, Cm.ev, U.ev, D.truth, D.toInt, D.items, if_true, if_false, Bool.not_true, Bool.not_false, reduceCtorEq, Option.map_some, Option.bind_some, List.length_cons, List.length_nil, Nat.zero_add, Nat.reduceAdd, Nat.reduceLT, Nat.reduceLeDiff, Bool.and_true, Bool.true_and, decide_true, id, ih p hp n]
    rw [List.map_id] at hk
    show C (n + k + 1 + 1) 2 _ = _
    rw [C_succ (di := d2) rfl]
    refine run_of (ρ := [some (.tup ds), none]) rfl ?_
    show evSs (C (n + k + 1)) wf0 d2.body [some (.tup ds), none] = _
    unfold d2
    simp only [EV.v_lit, EV.v_var, EV.v_glob, EV.v_fn, EV.v_un, EV.v_bin, EV.v_slL, EV.v_slH, EV.v_slLH, EV.v_tup, EV.v_lst, EV.v_and, EV.v_or, EV.v_not, EV.v_ite, EV.v_chain, EV.v_call, EV.v_callF, EV.v_callIo, EV.v_callT, EV.v_callv, EV.v_nil, EV.v_cons, EV.v_seq, EV.v_enum, EV.v_zip, EV.v_rng1, EV.v_C, s_asg', s_asgO', s_asg2', s_expr', s_ret', s_retN', s_if', s_raise', ss_nil', ss_cons', r_ok, r_exc, r_opt, t_nm, cr_ok, cr_exc, cr_okS, List.getD_cons_zero, List.getD_cons_succ, List.set_cons_zero, List.set_cons_succ, B.pre, B.ev, Cm.ev, U.ev, D.truth, D.toInt, D.items, if_true, if_false, Bool.not_true, Bool.not_false, reduceCtorEq, Option.map_some, Option.bind_some, List.length_cons, List.length_nil, Nat.zero_add, Nat.reduceAdd, Nat.reduceLT, Nat.reduceLeDiff, Bool.and_true, Bool.true_and, decide_true, hk, D.isa, D.ty]
    rfl
theorem T.Ok.tu {k : Nat} {t : T} (h : T.Ok k t) : Tu k t.D := by
  induction h with
  | @mk k nm ps h1 h2 h3 ih =>
    rw [T.D_mk]
    refine .tup (by rw [List.length_cons, List.length_map]; omega) fun d hd => ?_
    rcases List.mem_cons.mp hd with rfl | hd
    · exact .str _ _
    · obtain ⟨p, hp, rfl⟩ := List.mem_map.mp hd
      exact ih p hp

/-! ### texts of terms -/
theorem join_len (S : List Nat) : ∀ ps : List (List Nat), (ps.map (·.length)).sum + (ps.length - 1) * S.length = (TL.joinL S ps).length
  | [] => by simp [TL.joinL]
  | [p] => by simp [TL.joinL]
  | p :: q :: r => by
    show _ = (p ++ (S ++ TL.joinL S (q :: r))).length
    rw [List.length_append, List.length_append, ← join_len S (q :: r)]
    simp only [List.map_cons, List.sum_cons, List.length_cons, Nat.add_sub_cancel]
    rw [Nat.add_mul]
    omega
theorem le_sum {n : Nat} : ∀ {l : List Nat}, n ∈ l → n ≤ l.sum
  | [], h => nomatch h
  | a :: l, h => by
    rw [List.sum_cons]
    rcases List.mem_cons.mp h with rfl | h
    · omega
    · have := le_sum h
      omega
theorem made_text_ok : ∀ {k : Nat} {t : T}, T.Ok k t → t.text.length ≤ 1000 → ∀ n, C (n + k + 1) 10 [t.D] = .ok (.str t.text) t.D := by
  intro k t h
  induction h with
  | @mk k nm ps h1 h2 h3 ih =>
    intro hl n
    rw [T.D_mk]
    rw [T.text_mk] at hl ⊢
    show C (n + k + 1 + 1) 10 _ = _
    rw [C_succ (di := d10) rfl]
    refine run_of (ρ := [some (.tup (.str nm :: ps.map T.D)), none]) rfl ?_
    show evSs (C (n + k + 1)) wf0 d10.body [some (.tup (.str nm :: ps.map T.D)), none] = _
    have eqi : ∀ i j : Int, D.eq? (.int i) (.int j) = some (i == j) := fun i j => rfl
    cases ps with
    | nil =>
      unfold d10
      simp only [EV.v_lit, EV.v_var, EV.v_glob, EV.v_fn, EV.v_un, EV.v_bin, EV.v_slL, EV.v_slH, EV.v_slLH, EV.v_tup, EV.v_lst, EV.v_and, EV.v_or, EV.v_not, EV.v_ite, EV.v_chain, EV.v_call, EV.v_callF, EV.v_callIo, EV.v_callT, EV.v_callv, EV.v_nil, EV.v_cons, EV.v_seq, EV.v_enum, EV.v_zip, EV.v_rng1, EV.v_C, s_asg', s_asgO', s_asg2', s_expr', s_ret', s_retN', s_if', s_raise', ss_nil', ss_cons', r_ok, r_exc, r_opt, t_nm, cr_ok, cr_exc, cr_okS, List.getD_cons_zero, List.getD_cons_succ, List.set_cons_zero, List.set_cons_succ, B.pre, B.ev, Cm.ev, U.ev, D.truth, D.toInt, D.items, if_true, if_false, Bool.not_true, Bool.not_false, reduceCtorEq, Option.map_some, Option.bind_some, List.length_cons, List.length_nil, Nat.zero_add, Nat.reduceAdd, Nat.reduceLT, Nat.reduceLeDiff, Bool.and_true, Bool.true_and, decide_true, List.map_nil, at0, eqi]
      rfl
    | cons p ps =>
      simp only [List.isEmpty_cons, Bool.false_eq_true, if_false] at hl ⊢
      have hjl := join_len [44] ((p :: ps).map T.text)
      simp only [List.length_append, List.length_cons, List.length_nil] at hl
      have tl : ∀ q ∈ p :: ps, q.text.length ≤ 1000 := fun q hq => by
        have : q.text.length ≤ (((p :: ps).map T.text).map (·.length)).sum := le_sum (List.mem_map.mpr ⟨_, List.mem_map.mpr ⟨q, hq, rfl⟩, rfl⟩)
        omega
      have hk : evE (C (n + k + 1)) (.comp [("part", 1)] (.nm 1) (.seq (.slL (.var 0) (.lit (.int 1)))) (.call false false 10 (.cons (.var 1) .nil))) [some (.tup (.str nm :: (p :: ps).map T.D)), none] = .ok (.lst ((p :: ps).map fun q => .str q.text)) [some (.tup (.str nm :: (p :: ps).map T.D)), none] := by
        refine comp_one (xs := p :: ps) (e := T.D) (g := fun q => .str q.text) ?_ (by simp) (len_le (by omega)) fun q hq => ?_
        · simp only [EV.v_lit, EV.v_var, EV.v_glob, EV.v_fn, EV.v_un, EV.v_bin, EV.v_slL, EV.v_slH, EV.v_slLH, EV.v_tup, EV.v_lst, EV.v_and, EV.v_or, EV.v_not, EV.v_ite, EV.v_chain, EV.v_call, EV.v_callF, EV.v_callIo, EV.v_callT, EV.v_callv, EV.v_nil, EV.v_cons, EV.v_seq, EV.v_enum, EV.v_zip, EV.v_rng1, EV.v_C, s_asg', s_asgO', s_asg2', s_expr', s_ret', s_retN', s_if', s_raise', ss_nil', ss_cons', r_ok, r_exc, r_opt, t_nm, cr_ok, cr_exc, cr_okS, List.getD_cons_zero, List.getD_cons_succ, List.set_cons_zero, List.set_cons_succ, B.pre, B.ev, Cm.ev, U.ev, D.truth, D.toInt, D.items, if_true, if_false, Bool.not_true, Bool.not_false, reduceCtorEq, Option.map_some, Option.bind_some, List.length_cons, List.length_nil, Nat.zero_add, Nat.reduceAdd, Nat.reduceLT, Nat.reduceLeDiff, Bool.and_true, Bool.true_and, decide_true, slice_tl]
        · simp only [EV.v_lit, EV.v_var, EV.v_glob, EV.v_fn, EV.v_un, EV.v_bin, EV.v_slL, EV.v_slH, EV.v_slLH, EV.v_tup, EV.v_lst, EV.v_and, EV.v_or, EV.v_not, EV.v_ite, EV.v_chain, EV.v_call, EV.v_callF, EV.v_callIo, EV.v_callT, EV.v_callv, EV.v_nil, EV.v_cons, EV.v_seq, EV.v_enum, EV.v_zip, EV.v_rng1, EV.v_C, s_asg', s_asgO', s_asg2', s_expr', s_ret', s_retN', s_if', s_raise', ss_nil', ss_cons', r_ok, r_exc, r_opt, t_nm, cr_ok, cr_exc, cr_okS, List.getD_cons_zero, List.getD_cons_succ, List.set_cons_zero, List.set_cons_succ, B.pre, B.ev, Cm.ev, U.ev, D.truth, D.toInt, D.items, if_true, if_false, Bool.not_true, Bool.not_false, reduceCtorEq, Option.map_some, Option.bind_some, List.length_cons, List.length_nil, Nat.zero_add, Nat.reduceAdd, Nat.reduceLT, Nat.reduceLeDiff, Bool.and_true, Bool.true_and, decide_true, ih q hq (tl q hq) n]
      have hs : D.strs ((p :: ps).map fun q => .str q.text) = some ((p :: ps).map T.text) := strs_map T.text (p :: ps)
      have j1 : (((p :: ps).map T.text).map (·.length)).sum + ((p :: ps).map T.text).length * 1 ≤ 16777216 := by
        have e1 : ((p :: ps).map T.text).length = ps.length + 1 := by simp
        have e2 : ([44] : List Nat).length = 1 := rfl
        rw [e1, e2] at hjl
        rw [e1]
        simp only [List.length_cons] at h2
        omega
      have j2 : nm.length + 1 ≤ sizeLine := len_le (by omega)
      have j3 : (nm ++ [40]).length + (TL.joinL [44] ((p :: ps).map T.text)).length ≤ sizeLine := len_le (by simp only [List.length_append, List.length_cons, List.length_nil]; omega)
      have j4 : (nm ++ [40] ++ TL.joinL [44] ((p :: ps).map T.text)).length + 1 ≤ sizeLine := len_le (by simp only [List.length_append, List.length_cons, List.length_nil]; omega)
      have ne : ((((p :: ps).map T.D).length + 1 : Nat) == (1 : Int)) = false := by
        rw [beq_eq_false_iff_ne, List.length_map, List.length_cons]
        omega
      unfold d10
      simp only [EV.v_lit, EV.v_var, EV.v_glob, EV.v_fn, EV.v_un, EV.v_bin, EV.v_slL, EV.v_slH, EV.v_slLH, EV.v_tup, EV.v_lst, EV.v_and, EV.v_or, EV.v_not, EV.v_ite, EV.v_chain, EV.v_call, EV.v_callF, EV.v_callIo, EV.v_callT, EV.v_callv, EV.v_nil, EV.v_cons, EV.v_seq, EV.v_enum, EV.v_zip, EV.v_rng1, EV.v_C, s_asg', s_asgO', s_asg2', s_expr', s_ret', s_retN', s_if', s_raise', ss_nil', ss_cons', r_ok, r_exc, r_opt, t_nm, cr_ok, cr_exc, cr_okS, List.getD_cons_zero, List.getD_cons_succ, List.set_cons_zero, List.set_cons_succ, B.pre, B.ev, Cm.ev, U.ev, D.truth, D.toInt, D.items, if_true, if_false, Bool.not_true, Bool.not_false, reduceCtorEq, Option.map_some, Option.bind_some, List.length_cons, List.length_nil, Nat.zero_add, Nat.reduceAdd, Nat.reduceLT, Nat.reduceLeDiff, Bool.and_true, Bool.true_and, decide_true, hk, at0, eqi, hs, ne, if_pos j1, if_pos j2, if_pos j3, if_pos j4]
end K49
end
section
set_option autoImplicit false
/-! P49d: writers of rules, books, rows, runs. -/
namespace K49
open PySem EV

theorem eq_ii (i j : Int) : D.eq? (.int i) (.int j) = some (i == j) := rfl
theorem at1 {x y : D} {xs : List D} : L2.atI (x :: y :: xs) 1 = some y := by
  have h : (1 : Int) < ((xs.length + 1 + 1 : Nat) : Int) := by omega
  unfold L2.atI L2.ixN
  rw [if_pos (by decide), if_pos (by simpa using h)]
  rfl
theorem sure_ok (n : Nat) : C (n + 1) 4 [.bl true] = .ok .non (.bl true) := by
  rw [C_succ (di := d4) rfl]
  refine run_nx (ρ := [some (.bl true)]) rfl ?_
  show evSs (C n) wf0 d4.body [some (.bl true)] = _
  unfold d4
  simp only [EV.v_lit, EV.v_var, EV.v_glob, EV.v_fn, EV.v_un, EV.v_bin, EV.v_slL, EV.v_slH, EV.v_slLH, EV.v_tup, EV.v_lst, EV.v_and, EV.v_or, EV.v_not, EV.v_ite, EV.v_chain, EV.v_call, EV.v_callF, EV.v_callIo, EV.v_callT, EV.v_callv, EV.v_nil, EV.v_cons, EV.v_seq, EV.v_enum, EV.v_zip, EV.v_rng1, EV.v_C, s_asg', s_asgO', s_asg2', s_expr', s_ret', s_retN', s_if', s_raise', ss_nil', ss_cons', r_ok, r_exc, r_opt, t_nm, cr_ok, cr_exc, cr_okS, List.getD_cons_zero, List.getD_cons_succ, List.set_cons_zero, List.set_cons_succ, B.pre, B.ev, Cm.ev, U.ev, D.truth, D.toInt, D.items, if_true, if_false, Bool.not_true, Bool.not_false, reduceCtorEq, Option.map_some, Option.bind_some, List.length_cons, List.length_nil, Nat.zero_add, Nat.reduceAdd, Nat.reduceLT, Nat.reduceLeDiff, Bool.and_true, Bool.true_and, decide_true]
theorem is_tuple_of_ok (n : Nat) {ds : List D} {m : Int} (h : (ds.length : Int) = m) : C (n + 1) 3 [.tup ds, .int m] = .ok (.bl true) (.tup ds) := by
  rw [C_succ (di := d3) rfl]
  refine run_of (ρ := [some (.tup ds), some (.int m)]) rfl ?_
  show evSs (C n) wf0 d3.body [some (.tup ds), some (.int m)] = _
  unfold d3
  subst h
  simp only [EV.v_lit, EV.v_var, EV.v_glob, EV.v_fn, EV.v_un, EV.v_bin, EV.v_slL, EV.v_slH, EV.v_slLH, EV.v_tup, EV.v_lst, EV.v_and, EV.v_or, EV.v_not, EV.v_ite, EV.v_chain, EV.v_call, EV.v_callF, EV.v_callIo, EV.v_callT, EV.v_callv, EV.v_nil, EV.v_cons, EV.v_seq, EV.v_enum, EV.v_zip, EV.v_rng1, EV.v_C, s_asg', s_asgO', s_asg2', s_expr', s_ret', s_retN', s_if', s_raise', ss_nil', ss_cons', r_ok, r_exc, r_opt, t_nm, cr_ok, cr_exc, cr_okS, List.getD_cons_zero, List.getD_cons_succ, List.set_cons_zero, List.set_cons_succ, B.pre, B.ev, Cm.ev, U.ev, D.truth, D.toInt, D.items, if_true, if_false, Bool.not_true, Bool.not_false, reduceCtorEq, Option.map_some, Option.bind_some, List.length_cons, List.length_nil, Nat.zero_add, Nat.reduceAdd, Nat.reduceLT, Nat.reduceLeDiff, Bool.and_true, Bool.true_and, decide_true, D.isa, D.ty, eq_ii, beq_self_eq_true]
theorem law_size_ok : ∀ {k : Nat} {t : T}, T.Ok k t → ∀ n, C (n + k + 1) 54 [t.D] = .ok (.int t.size) t.D := by
  intro k t h
  induction h with
  | @mk k nm ps h1 h2 h3 ih =>
    intro n
    rw [T.D_mk, T.size_mk]
    have hk : evE (C (n + k + 1)) (.comp [("part", 1)] (.nm 1) (.seq (.slL (.var 0) (.lit (.int 1)))) (.call false false 54 (.cons (.var 1) .nil))) [some (.tup (.str nm :: ps.map T.D)), none] = .ok (.lst (ps.map fun p => .int (p.size : Nat))) [some (.tup (.str nm :: ps.map T.D)), none] := by
      refine comp_one (xs := ps) (e := T.D) (g := fun p => .int (p.size : Nat)) ?_ (by simp) (len_le (by omega)) fun p hp => ?_
      · simp only [EV.v_lit, EV.v_var, EV.v_glob, EV.v_fn, EV.v_un, EV.v_bin, EV.v_slL, EV.v_slH, EV.v_slLH, EV.v_tup, EV.v_lst, EV.v_and, EV.v_or, EV.v_not, EV.v_ite, EV.v_chain, EV.v_call, EV.v_callF, EV.v_callIo, EV.v_callT, EV.v_callv, EV.v_nil, EV.v_cons, EV.v_seq, EV.v_enum, EV.v_zip, EV.v_rng1, EV.v_C, s_asg', s_asgO', s_asg2', s_expr', s_ret', s_retN', s_if', s_raise', ss_nil', ss_cons', r_ok, r_exc, r_opt, t_nm, cr_ok, cr_exc, cr_okS, List.getD_cons_zero, List.getD_cons_succ, List.set_cons_zero, List.set_cons_succ, B.pre, B.ev, Cm.ev, U.ev, D.truth, D.toInt, D.items, if_true, if_false, Bool.not_true, Bool.not_false, reduceCtorEq, Option.map_some, Option.bind_some, List.length_cons, List.length_nil, Nat.zero_add, Nat.reduceAdd, Nat.reduceLT, Nat.reduceLeDiff, Bool.and_true, Bool.true_and, decide_true, slice_tl]
      · simp only [EV.v_lit, EV.v_var, EV.v_glob, EV.v_fn, EV.v_un, EV.v_bin, EV.v_slL, EV.v_slH, EV.v_slLH, EV.v_tup, EV.v_lst, EV.v_and, EV.v_or, EV.v_not, EV.v_ite, EV.v_chain, EV.v_call, EV.v_callF, EV.v_callIo, EV.v_callT, EV.v_callv, EV.v_nil, EV.v_cons, EV.v_seq, EV.v_enum, EV.v_zip, EV.v_rng1, EV.v_C, s_asg', s_asgO', s_asg2', s_expr', s_ret', s_retN', s_if', s_raise', ss_nil', ss_cons', r_ok, r_exc, r_opt, t_nm, cr_ok, cr_exc, cr_okS, List.getD_cons_zero, List.getD_cons_succ, List.set_cons_zero, List.set_cons_succ, B.pre, B.ev, Cm.ev, U.ev, D.truth, D.toInt, D.items, if_true, if_false, Bool.not_true, Bool.not_false, reduceCtorEq, Option.map_some, Option.bind_some, List.length_cons, List.length_nil, Nat.zero_add, Nat.reduceAdd, Nat.reduceLT, Nat.reduceLeDiff, Bool.and_true, Bool.true_and, decide_true, ih p hp n]
    have hb : D.ints (ps.map fun p => .int (p.size : Nat)) = some (ps.map fun p => ((p.size : Nat) : Int)) := ints_map _ ps
    have hsum : ∀ l : List T, (l.map fun p => ((p.size : Nat) : Int)).sum = (((l.map T.size).sum : Nat) : Int) := fun l => by
      induction l with
      | nil => rfl
      | cons x l ih => simp only [List.map_cons, List.sum_cons, ih]; omega
    show C (n + k + 1 + 1) 54 _ = _
    rw [C_succ (di := d54) rfl]
    refine run_of (ρ := [some (.tup (.str nm :: ps.map T.D)), none]) rfl ?_
    show evSs (C (n + k + 1)) wf0 d54.body [some (.tup (.str nm :: ps.map T.D)), none] = _
    unfold d54
    simp only [EV.v_lit, EV.v_var, EV.v_glob, EV.v_fn, EV.v_un, EV.v_bin, EV.v_slL, EV.v_slH, EV.v_slLH, EV.v_tup, EV.v_lst, EV.v_and, EV.v_or, EV.v_not, EV.v_ite, EV.v_chain, EV.v_call, EV.v_callF, EV.v_callIo, EV.v_callT, EV.v_callv, EV.v_nil, EV.v_cons, EV.v_seq, EV.v_enum, EV.v_zip, EV.v_rng1, EV.v_C, s_asg', s_asgO', s_asg2', s_expr', s_ret', s_retN', s_if', s_raise', ss_nil', ss_cons', r_ok, r_exc, r_opt, t_nm, cr_ok, cr_exc, cr_okS, List.getD_cons_zero, List.getD_cons_succ, List.set_cons_zero, List.set_cons_succ, B.pre, B.ev, Cm.ev, U.ev, D.truth, D.toInt, D.items, if_true, if_false, Bool.not_true, Bool.not_false, reduceCtorEq, Option.map_some, Option.bind_some, List.length_cons, List.length_nil, Nat.zero_add, Nat.reduceAdd, Nat.reduceLT, Nat.reduceLeDiff, Bool.and_true, Bool.true_and, decide_true, hk, hb, hsum]
    rfl
theorem term_text_ok {k : Nat} {t : T} (h : T.Ok k t) (hl : t.text.length ≤ 1000) (n : Nat) : C (n + k + 2) 11 [t.D] = .ok (.str t.text) t.D := by
  show C (n + k + 1 + 1) 11 _ = _
  rw [C_succ (di := d11) rfl]
  refine run_of (ρ := [some t.D, some t.D]) rfl ?_
  show evSs (C (n + k + 1)) wf0 d11.body [some t.D, none] = _
  unfold d11
  simp only [EV.v_lit, EV.v_var, EV.v_glob, EV.v_fn, EV.v_un, EV.v_bin, EV.v_slL, EV.v_slH, EV.v_slLH, EV.v_tup, EV.v_lst, EV.v_and, EV.v_or, EV.v_not, EV.v_ite, EV.v_chain, EV.v_call, EV.v_callF, EV.v_callIo, EV.v_callT, EV.v_callv, EV.v_nil, EV.v_cons, EV.v_seq, EV.v_enum, EV.v_zip, EV.v_rng1, EV.v_C, s_asg', s_asgO', s_asg2', s_expr', s_ret', s_retN', s_if', s_raise', ss_nil', ss_cons', r_ok, r_exc, r_opt, t_nm, cr_ok, cr_exc, cr_okS, List.getD_cons_zero, List.getD_cons_succ, List.set_cons_zero, List.set_cons_succ, B.pre, B.ev, Cm.ev, U.ev, D.truth, D.toInt, D.items, if_true, if_false, Bool.not_true, Bool.not_false, reduceCtorEq, Option.map_some, Option.bind_some, List.length_cons, List.length_nil, Nat.zero_add, Nat.reduceAdd, Nat.reduceLT, Nat.reduceLeDiff, Bool.and_true, Bool.true_and, decide_true, tuple_of_ok h.tu n, is_term_ok h n, sure_ok, made_text_ok h hl n]

/-! ### rules, books -/
structure Rl where
  a : T
  b : T
def Rl.D (r : Rl) : EV.D := .tup [r.a.D, r.b.D]
def Rl.text (r : Rl) : List Nat := r.a.text ++ [32, 116, 111, 32] ++ r.b.text
structure Rl.Ok (k : Nat) (r : Rl) : Prop where
  a : T.Ok k r.a
  b : T.Ok k r.b
  ne : D.eq? r.a.D r.b.D = some false
theorem is_rule_ok {k : Nat} {r : Rl} (h : r.Ok k) (n : Nat) : C (n + k + 2) 7 [r.D] = .ok (.bl true) r.D := by
  show C (n + k + 1 + 1) 7 _ = _
  rw [C_succ (di := d7) rfl]
  refine run_of (ρ := [some r.D]) rfl ?_
  show evSs (C (n + k + 1)) wf0 d7.body [some r.D] = _
  unfold d7 Rl.D
  simp only [EV.v_lit, EV.v_var, EV.v_glob, EV.v_fn, EV.v_un, EV.v_bin, EV.v_slL, EV.v_slH, EV.v_slLH, EV.v_tup, EV.v_lst, EV.v_and, EV.v_or, EV.v_not, EV.v_ite, EV.v_chain, EV.v_call, EV.v_callF, EV.v_callIo, EV.v_callT, EV.v_callv, EV.v_nil, EV.v_cons, EV.v_seq, EV.v_enum, EV.v_zip, EV.v_rng1, EV.v_C, s_asg', s_asgO', s_asg2', s_expr', s_ret', s_retN', s_if', s_raise', ss_nil', ss_cons', r_ok, r_exc, r_opt, t_nm, cr_ok, cr_exc, cr_okS, List.getD_cons_zero, List.getD_cons_succ, List.set_cons_zero, List.set_cons_succ, B.pre, B.ev, Cm.ev, U.ev, D.truth, D.toInt, D.items, if_true, if_false, Bool.not_true, Bool.not_false, reduceCtorEq, Option.map_some, Option.bind_some, List.length_cons, List.length_nil, Nat.zero_add, Nat.reduceAdd, Nat.reduceLT, Nat.reduceLeDiff, Bool.and_true, Bool.true_and, decide_true, is_tuple_of_ok (n + k) (ds := [r.a.D, r.b.D]) (m := 2) rfl, is_term_ok h.a n, is_term_ok h.b n, at0, at1, h.ne]
theorem Rl.Ok.tu {k : Nat} {r : Rl} (h : r.Ok k) : Tu (k + 1) r.D := .tup (by simp) fun d hd => by
  rcases List.mem_cons.mp hd with rfl | hd
  · exact h.a.tu
  · rcases List.mem_cons.mp hd with rfl | hd
    · exact h.b.tu
    · cases hd
theorem made_rule_text_ok {k : Nat} {r : Rl} (h : r.Ok k) (hl : r.text.length ≤ 1000) (n : Nat) : C (n + k + 2) 12 [r.D] = .ok (.str r.text) r.D := by
  unfold Rl.text at hl ⊢
  simp only [List.length_append, List.length_cons, List.length_nil] at hl
  have j1 : r.a.text.length + 4 ≤ sizeLine := len_le (by omega)
  have j2 : (r.a.text ++ [32, 116, 111, 32]).length + r.b.text.length ≤ sizeLine := len_le (by simp only [List.length_append, List.length_cons, List.length_nil]; omega)
  show C (n + k + 1 + 1) 12 _ = _
  rw [C_succ (di := d12) rfl]
  refine run_of (ρ := [some r.D]) rfl ?_
  show evSs (C (n + k + 1)) wf0 d12.body [some r.D] = _
  unfold d12 Rl.D
  simp only [EV.v_lit, EV.v_var, EV.v_glob, EV.v_fn, EV.v_un, EV.v_bin, EV.v_slL, EV.v_slH, EV.v_slLH, EV.v_tup, EV.v_lst, EV.v_and, EV.v_or, EV.v_not, EV.v_ite, EV.v_chain, EV.v_call, EV.v_callF, EV.v_callIo, EV.v_callT, EV.v_callv, EV.v_nil, EV.v_cons, EV.v_seq, EV.v_enum, EV.v_zip, EV.v_rng1, EV.v_C, s_asg', s_asgO', s_asg2', s_expr', s_ret', s_retN', s_if', s_raise', ss_nil', ss_cons', r_ok, r_exc, r_opt, t_nm, cr_ok, cr_exc, cr_okS, List.getD_cons_zero, List.getD_cons_succ, List.set_cons_zero, List.set_cons_succ, B.pre, B.ev, Cm.ev, U.ev, D.truth, D.toInt, D.items, if_true, if_false, Bool.not_true, Bool.not_false, reduceCtorEq, Option.map_some, Option.bind_some, List.length_cons, List.length_nil, Nat.zero_add, Nat.reduceAdd, Nat.reduceLT, Nat.reduceLeDiff, Bool.and_true, Bool.true_and, decide_true, at0, at1, made_text_ok h.a (by omega) n, made_text_ok h.b (by omega) n, if_pos j1, if_pos j2]
theorem rule_text_ok {k : Nat} {r : Rl} (h : r.Ok k) (hl : r.text.length ≤ 1000) (n : Nat) : C (n + k + 3) 13 [r.D] = .ok (.str r.text) r.D := by
  show C (n + k + 2 + 1) 13 _ = _
  rw [C_succ (di := d13) rfl]
  refine run_of (ρ := [some r.D, some r.D]) rfl ?_
  show evSs (C (n + k + 2)) wf0 d13.body [some r.D, none] = _
  unfold d13
  simp only [EV.v_lit, EV.v_var, EV.v_glob, EV.v_fn, EV.v_un, EV.v_bin, EV.v_slL, EV.v_slH, EV.v_slLH, EV.v_tup, EV.v_lst, EV.v_and, EV.v_or, EV.v_not, EV.v_ite, EV.v_chain, EV.v_call, EV.v_callF, EV.v_callIo, EV.v_callT, EV.v_callv, EV.v_nil, EV.v_cons, EV.v_seq, EV.v_enum, EV.v_zip, EV.v_rng1, EV.v_C, s_asg', s_asgO', s_asg2', s_expr', s_ret', s_retN', s_if', s_raise', ss_nil', ss_cons', r_ok, r_exc, r_opt, t_nm, cr_ok, cr_exc, cr_okS, List.getD_cons_zero, List.getD_cons_succ, List.set_cons_zero, List.set_cons_succ, B.pre, B.ev, Cm.ev, U.ev, D.truth, D.toInt, D.items, if_true, if_false, Bool.not_true, Bool.not_false, reduceCtorEq, Option.map_some, Option.bind_some, List.length_cons, List.length_nil, Nat.zero_add, Nat.reduceAdd, Nat.reduceLT, Nat.reduceLeDiff, Bool.and_true, Bool.true_and, decide_true, show C (n + k + 2) 2 [r.D] = _ from tuple_of_ok h.tu n, is_rule_ok h n, sure_ok, made_rule_text_ok h hl n]
end K49
end
section
set_option autoImplicit false
/-! P49e: writers of books, rows, runs. -/
namespace K49
open PySem EV

theorem join_sum (S : List Nat) (ps : List (List Nat)) : (ps.map (·.length)).sum + ps.length * S.length ≤ (TL.joinL S ps).length + S.length := by
  have := join_len S ps
  cases ps with
  | nil => simp
  | cons p ps =>
    simp only [List.length_cons, Nat.add_sub_cancel] at this ⊢
    rw [Nat.add_mul]
    omega
theorem join_mem {S p : List Nat} {ps : List (List Nat)} (h : p ∈ ps) : p.length ≤ (TL.joinL S ps).length := by
  have h1 := join_len S ps
  have h2 : p.length ≤ (ps.map (·.length)).sum := le_sum (List.mem_map.mpr ⟨p, h, rfl⟩)
  omega

/-! ### books -/
def bookText (rs : List Rl) : List Nat := if rs.isEmpty then [45] else TL.joinL [59, 32] (rs.map Rl.text)
theorem is_book_ok {k : Nat} {rs : List Rl} (h : ∀ r ∈ rs, r.Ok k) (h5 : rs.length ≤ 5) (n : Nat) : C (n + k + 3) 8 [.tup (rs.map Rl.D)] = .ok (.bl true) (.tup (rs.map Rl.D)) := by
  have hk : evE (C (n + k + 2)) (.comp [("rule", 1)] (.nm 1) (.seq (.var 0)) (.call false false 7 (.cons (.var 1) .nil))) [some (.tup (rs.map Rl.D)), none] = .ok (.lst (rs.map fun _ => .bl true)) [some (.tup (rs.map Rl.D)), none] := by
    refine comp_one (xs := rs) (e := Rl.D) (g := fun _ => .bl true) ?_ (by simp) (len_le (by omega)) fun r hr => ?_
    · simp only [EV.v_lit, EV.v_var, EV.v_glob, EV.v_fn, EV.v_un, EV.v_bin, EV.v_slL, EV.v_slH, EV.v_slLH, EV.v_tup, EV.v_lst, EV.v_and, EV.v_or, EV.v_not, EV.v_ite, EV.v_chain, EV.v_call, EV.v_callF, EV.v_callIo, EV.v_callT, EV.v_callv, EV.v_nil, EV.v_cons, EV.v_seq, EV.v_enum, EV.v_zip, EV.v_rng1, EV.v_C, s_asg', s_asgO', s_asg2', s_expr', s_ret', s_retN', s_if', s_raise', ss_nil', ss_cons', r_ok, r_exc, r_opt, t_nm, cr_ok, cr_exc, cr_okS, List.getD_cons_zero, List.getD_cons_succ, List.set_cons_zero, List.set_cons_succ, B.pre, B.ev, Cm.ev, U.ev, D.truth, D.toInt, D.items, if_true, if_false, Bool.not_true, Bool.not_false, reduceCtorEq, Option.map_some, Option.bind_some, List.length_cons, List.length_nil, Nat.zero_add, Nat.reduceAdd, Nat.reduceLT, Nat.reduceLeDiff, Bool.and_true, Bool.true_and, decide_true]
    · simp only [EV.v_lit, EV.v_var, EV.v_glob, EV.v_fn, EV.v_un, EV.v_bin, EV.v_slL, EV.v_slH, EV.v_slLH, EV.v_tup, EV.v_lst, EV.v_and, EV.v_or, EV.v_not, EV.v_ite, EV.v_chain, EV.v_call, EV.v_callF, EV.v_callIo, EV.v_callT, EV.v_callv, EV.v_nil, EV.v_cons, EV.v_seq, EV.v_enum, EV.v_zip, EV.v_rng1, EV.v_C, s_asg', s_asgO', s_asg2', s_expr', s_ret', s_retN', s_if', s_raise', ss_nil', ss_cons', r_ok, r_exc, r_opt, t_nm, cr_ok, cr_exc, cr_okS, List.getD_cons_zero, List.getD_cons_succ, List.set_cons_zero, List.set_cons_succ, B.pre, B.ev, Cm.ev, U.ev, D.truth, D.toInt, D.items, if_true, if_false, Bool.not_true, Bool.not_false, reduceCtorEq, Option.map_some, Option.bind_some, List.length_cons, List.length_nil, Nat.zero_add, Nat.reduceAdd, Nat.reduceLT, Nat.reduceLeDiff, Bool.and_true, Bool.true_and, decide_true, is_rule_ok (h r hr) n]
  have hb : D.bls (rs.map fun _ => .bl true) = some (rs.map fun _ => true) := bls_map (fun _ => true) rs
  have ht : (rs.map fun _ => true).all id = true := all_true fun _ _ => rfl
  have i1 : ((rs.length : Nat) : Int) ≤ 5 := by omega
  show C (n + k + 2 + 1) 8 _ = _
  rw [C_succ (di := d8) rfl]
  refine run_of (ρ := [some (.tup (rs.map Rl.D)), none]) rfl ?_
  show evSs (C (n + k + 2)) wf0 d8.body [some (.tup (rs.map Rl.D)), none] = _
  unfold d8
  simp only [EV.v_lit, EV.v_var, EV.v_glob, EV.v_fn, EV.v_un, EV.v_bin, EV.v_slL, EV.v_slH, EV.v_slLH, EV.v_tup, EV.v_lst, EV.v_and, EV.v_or, EV.v_not, EV.v_ite, EV.v_chain, EV.v_call, EV.v_callF, EV.v_callIo, EV.v_callT, EV.v_callv, EV.v_nil, EV.v_cons, EV.v_seq, EV.v_enum, EV.v_zip, EV.v_rng1, EV.v_C, s_asg', s_asgO', s_asg2', s_expr', s_ret', s_retN', s_if', s_raise', ss_nil', ss_cons', r_ok, r_exc, r_opt, t_nm, cr_ok, cr_exc, cr_okS, List.getD_cons_zero, List.getD_cons_succ, List.set_cons_zero, List.set_cons_succ, B.pre, B.ev, Cm.ev, U.ev, D.truth, D.toInt, D.items, if_true, if_false, Bool.not_true, Bool.not_false, reduceCtorEq, Option.map_some, Option.bind_some, List.length_cons, List.length_nil, Nat.zero_add, Nat.reduceAdd, Nat.reduceLT, Nat.reduceLeDiff, Bool.and_true, Bool.true_and, decide_true, hk, D.isa, D.ty, List.length_map, i1, hb, ht, beq_self_eq_true]
theorem book_tu {k : Nat} {rs : List Rl} (h : ∀ r ∈ rs, r.Ok k) (h5 : rs.length ≤ 5) : Tu (k + 2) (.tup (rs.map Rl.D)) := .tup (by rw [List.length_map]; omega) fun d hd => by
  obtain ⟨r, hr, rfl⟩ := List.mem_map.mp hd
  exact (h r hr).tu
theorem made_book_text_ok {k : Nat} {rs : List Rl} (h : ∀ r ∈ rs, r.Ok k) (h5 : rs.length ≤ 5) (hl : (bookText rs).length ≤ 1000) (n : Nat) : C (n + k + 3) 14 [.tup (rs.map Rl.D)] = .ok (.str (bookText rs)) (.tup (rs.map Rl.D)) := by
  show C (n + k + 2 + 1) 14 _ = _
  rw [C_succ (di := d14) rfl]
  refine run_of (ρ := [some (.tup (rs.map Rl.D)), none]) rfl ?_
  show evSs (C (n + k + 2)) wf0 d14.body [some (.tup (rs.map Rl.D)), none] = _
  cases rs with
  | nil =>
    unfold d14
    simp only [EV.v_lit, EV.v_var, EV.v_glob, EV.v_fn, EV.v_un, EV.v_bin, EV.v_slL, EV.v_slH, EV.v_slLH, EV.v_tup, EV.v_lst, EV.v_and, EV.v_or, EV.v_not, EV.v_ite, EV.v_chain, EV.v_call, EV.v_callF, EV.v_callIo, EV.v_callT, EV.v_callv, EV.v_nil, EV.v_cons, EV.v_seq, EV.v_enum, EV.v_zip, EV.v_rng1, EV.v_C, s_asg', s_asgO', s_asg2', s_expr', s_ret', s_retN', s_if', s_raise', ss_nil', ss_cons', r_ok, r_exc, r_opt, t_nm, cr_ok, cr_exc, cr_okS, List.getD_cons_zero, List.getD_cons_succ, List.set_cons_zero, List.set_cons_succ, B.pre, B.ev, Cm.ev, U.ev, D.truth, D.toInt, D.items, if_true, if_false, Bool.not_true, Bool.not_false, reduceCtorEq, Option.map_some, Option.bind_some, List.length_cons, List.length_nil, Nat.zero_add, Nat.reduceAdd, Nat.reduceLT, Nat.reduceLeDiff, Bool.and_true, Bool.true_and, decide_true, List.map_nil]
    rfl
  | cons r rs =>
    have hl : (TL.joinL [59, 32] ((r :: rs).map Rl.text)).length ≤ 1000 := hl
    have hk : evE (C (n + k + 2)) (.comp [("rule", 1)] (.nm 1) (.seq (.var 0)) (.call false false 12 (.cons (.var 1) .nil))) [some (.tup ((r :: rs).map Rl.D)), none] = .ok (.lst ((r :: rs).map fun q => .str q.text)) [some (.tup ((r :: rs).map Rl.D)), none] := by
      refine comp_one (xs := r :: rs) (e := Rl.D) (g := fun q => .str q.text) ?_ (by simp) (len_le (by omega)) fun q hq => ?_
      · simp only [EV.v_lit, EV.v_var, EV.v_glob, EV.v_fn, EV.v_un, EV.v_bin, EV.v_slL, EV.v_slH, EV.v_slLH, EV.v_tup, EV.v_lst, EV.v_and, EV.v_or, EV.v_not, EV.v_ite, EV.v_chain, EV.v_call, EV.v_callF, EV.v_callIo, EV.v_callT, EV.v_callv, EV.v_nil, EV.v_cons, EV.v_seq, EV.v_enum, EV.v_zip, EV.v_rng1, EV.v_C, s_asg', s_asgO', s_asg2', s_expr', s_ret', s_retN', s_if', s_raise', ss_nil', ss_cons', r_ok, r_exc, r_opt, t_nm, cr_ok, cr_exc, cr_okS, List.getD_cons_zero, List.getD_cons_succ, List.set_cons_zero, List.set_cons_succ, B.pre, B.ev, Cm.ev, U.ev, D.truth, D.toInt, D.items, if_true, if_false, Bool.not_true, Bool.not_false, reduceCtorEq, Option.map_some, Option.bind_some, List.length_cons, List.length_nil, Nat.zero_add, Nat.reduceAdd, Nat.reduceLT, Nat.reduceLeDiff, Bool.and_true, Bool.true_and, decide_true]
      · simp only [EV.v_lit, EV.v_var, EV.v_glob, EV.v_fn, EV.v_un, EV.v_bin, EV.v_slL, EV.v_slH, EV.v_slLH, EV.v_tup, EV.v_lst, EV.v_and, EV.v_or, EV.v_not, EV.v_ite, EV.v_chain, EV.v_call, EV.v_callF, EV.v_callIo, EV.v_callT, EV.v_callv, EV.v_nil, EV.v_cons, EV.v_seq, EV.v_enum, EV.v_zip, EV.v_rng1, EV.v_C, s_asg', s_asgO', s_asg2', s_expr', s_ret', s_retN', s_if', s_raise', ss_nil', ss_cons', r_ok, r_exc, r_opt, t_nm, cr_ok, cr_exc, cr_okS, List.getD_cons_zero, List.getD_cons_succ, List.set_cons_zero, List.set_cons_succ, B.pre, B.ev, Cm.ev, U.ev, D.truth, D.toInt, D.items, if_true, if_false, Bool.not_true, Bool.not_false, reduceCtorEq, Option.map_some, Option.bind_some, List.length_cons, List.length_nil, Nat.zero_add, Nat.reduceAdd, Nat.reduceLT, Nat.reduceLeDiff, Bool.and_true, Bool.true_and, decide_true, made_rule_text_ok (h q hq) (Nat.le_trans (join_mem (List.mem_map.mpr ⟨q, hq, rfl⟩)) hl) n]
    have hs : D.strs ((r :: rs).map fun q => .str q.text) = some ((r :: rs).map Rl.text) := strs_map Rl.text (r :: rs)
    have j1 : (((r :: rs).map Rl.text).map (·.length)).sum + ((r :: rs).map Rl.text).length * 2 ≤ 16777216 := by
      have := join_sum [59, 32] ((r :: rs).map Rl.text)
      simp only [List.length_cons, List.length_nil] at this ⊢
      omega
    have i1 : decide ((0 : Int) < ((((r :: rs).map Rl.D).length : Nat) : Int)) = true := decide_eq_true (by simp only [List.length_map, List.length_cons]; omega)
    unfold d14
    simp only [EV.v_lit, EV.v_var, EV.v_glob, EV.v_fn, EV.v_un, EV.v_bin, EV.v_slL, EV.v_slH, EV.v_slLH, EV.v_tup, EV.v_lst, EV.v_and, EV.v_or, EV.v_not, EV.v_ite, EV.v_chain, EV.v_call, EV.v_callF, EV.v_callIo, EV.v_callT, EV.v_callv, EV.v_nil, EV.v_cons, EV.v_seq, EV.v_enum, EV.v_zip, EV.v_rng1, EV.v_C, s_asg', s_asgO', s_asg2', s_expr', s_ret', s_retN', s_if', s_raise', ss_nil', ss_cons', r_ok, r_exc, r_opt, t_nm, cr_ok, cr_exc, cr_okS, List.getD_cons_zero, List.getD_cons_succ, List.set_cons_zero, List.set_cons_succ, B.pre, B.ev, Cm.ev, U.ev, D.truth, D.toInt, D.items, if_true, if_false, Bool.not_true, Bool.not_false, reduceCtorEq, Option.map_some, Option.bind_some, List.length_cons, List.length_nil, Nat.zero_add, Nat.reduceAdd, Nat.reduceLT, Nat.reduceLeDiff, Bool.and_true, Bool.true_and, decide_true, hk, hs, if_pos j1, i1]
    rfl
theorem book_text_ok {k : Nat} {rs : List Rl} (h : ∀ r ∈ rs, r.Ok k) (h5 : rs.length ≤ 5) (hl : (bookText rs).length ≤ 1000) (n : Nat) : C (n + k + 4) 15 [.tup (rs.map Rl.D)] = .ok (.str (bookText rs)) (.tup (rs.map Rl.D)) := by
  show C (n + k + 3 + 1) 15 _ = _
  rw [C_succ (di := d15) rfl]
  refine run_of (ρ := [some (.tup (rs.map Rl.D)), some (.tup (rs.map Rl.D))]) rfl ?_
  show evSs (C (n + k + 3)) wf0 d15.body [some (.tup (rs.map Rl.D)), none] = _
  unfold d15
  simp only [EV.v_lit, EV.v_var, EV.v_glob, EV.v_fn, EV.v_un, EV.v_bin, EV.v_slL, EV.v_slH, EV.v_slLH, EV.v_tup, EV.v_lst, EV.v_and, EV.v_or, EV.v_not, EV.v_ite, EV.v_chain, EV.v_call, EV.v_callF, EV.v_callIo, EV.v_callT, EV.v_callv, EV.v_nil, EV.v_cons, EV.v_seq, EV.v_enum, EV.v_zip, EV.v_rng1, EV.v_C, s_asg', s_asgO', s_asg2', s_expr', s_ret', s_retN', s_if', s_raise', ss_nil', ss_cons', r_ok, r_exc, r_opt, t_nm, cr_ok, cr_exc, cr_okS, List.getD_cons_zero, List.getD_cons_succ, List.set_cons_zero, List.set_cons_succ, B.pre, B.ev, Cm.ev, U.ev, D.truth, D.toInt, D.items, if_true, if_false, Bool.not_true, Bool.not_false, reduceCtorEq, Option.map_some, Option.bind_some, List.length_cons, List.length_nil, Nat.zero_add, Nat.reduceAdd, Nat.reduceLT, Nat.reduceLeDiff, Bool.and_true, Bool.true_and, decide_true, show C (n + k + 3) 2 [.tup (rs.map Rl.D)] = _ from tuple_of_ok (book_tu h h5) n, is_book_ok h h5 n, sure_ok, made_book_text_ok h h5 hl n]
end K49
end
section
set_option autoImplicit false
/-! P49f: numbers: read, written. -/
namespace K49
open PySem EV

theorem snoc_of {α : Type} : ∀ {l : List α}, l ≠ [] → ∃ r c, l = r ++ [c] := fun {l} h => ⟨l.dropLast, l.getLast h, (List.dropLast_concat_getLast h).symm⟩
/-- a word that is a number as it is written: figures, no nought ahead -/
theorem numL_back : ∀ (k : Nat) (w : List Nat), w.length = k → NumText.AllDigits w → w ≠ [] → w.head? ≠ some 48 → TL.numL (NumText.digitsVal w) = w ∧ 1 ≤ NumText.digitsVal w
  | 0, w, hl, _, hn, _ => absurd (List.length_eq_zero_iff.mp hl) hn
  | k + 1, w, hl, hd, hn, h0 => by
    obtain ⟨r, c, rfl⟩ := snoc_of hn
    have hc := hd c (List.mem_append_right _ (List.mem_singleton.mpr rfl))
    rw [NumText.digitsVal_snoc]
    by_cases hr : r = []
    · subst hr
      have hc0 : c ≠ 48 := fun z => h0 (by rw [z]; rfl)
      show TL.numL (0 * 10 + (c - 48)) = [c] ∧ 1 ≤ 0 * 10 + (c - 48)
      rw [Nat.zero_mul, Nat.zero_add]
      rw [TL.numL_lt (by omega)]
      refine ⟨?_, by omega⟩
      congr 1
      omega
    · obtain ⟨i1, i2⟩ := numL_back k r (by simpa using hl) (fun d hd' => hd d (List.mem_append_left _ hd')) hr (by
        cases r with
        | nil => exact absurd rfl hr
        | cons x r => exact h0)
      refine ⟨?_, by omega⟩
      rw [TL.numL_step (by omega)]
      have e1 : (NumText.digitsVal r * 10 + (c - 48)) / 10 = NumText.digitsVal r := by omega
      have e2 : (NumText.digitsVal r * 10 + (c - 48)) % 10 = c - 48 := by omega
      rw [e1, e2, i1]
      congr 2
      omega
theorem digits_lt : ∀ (w : List Nat), NumText.AllDigits w → NumText.digitsVal w < 10 ^ w.length := by
  intro w
  induction hk : w.length generalizing w with
  | zero =>
    intro _
    rw [List.length_eq_zero_iff.mp hk]
    decide
  | succ k ih =>
    intro hd
    obtain ⟨r, c, rfl⟩ := snoc_of (l := w) (fun z => by rw [z] at hk; cases hk)
    have hc := hd c (List.mem_append_right _ (List.mem_singleton.mpr rfl))
    have := ih r (by simpa using hk) fun d hd' => hd d (List.mem_append_left _ hd')
    rw [NumText.digitsVal_snoc, Nat.pow_succ]
    omega
/-- a word of one to six figures, no nought ahead but of the nought -/
def okNum (w : List Nat) : Bool := decide (0 < w.length) && decide (w.length ≤ 6) && w.all (fun c => decide (48 ≤ c) && decide (c ≤ 57)) && !(w.head? == some 48 && !(w == [48]))
theorem okNum_of {w : List Nat} (h : okNum w = true) : 0 < w.length ∧ w.length ≤ 6 ∧ NumText.AllDigits w ∧ TL.numL (NumText.digitsVal w) = w := by
  unfold okNum at h
  simp only [Bool.and_eq_true, decide_eq_true_eq, List.all_eq_true, Bool.not_eq_true', Bool.and_eq_false_iff] at h
  obtain ⟨⟨⟨h1, h2⟩, h3⟩, h4⟩ := h
  refine ⟨h1, h2, h3, ?_⟩
  rcases h4 with h4 | h4
  · exact (numL_back _ w rfl h3 (fun z => by rw [z] at h1; cases h1) (fun z => by rw [z] at h4; cases h4)).1
  · have : w = [48] := eq_of_beq (by simpa using h4)
    rw [this]
    exact TL.numL_lt (by decide)
def numVal (w : List Nat) : Nat := NumText.digitsVal w
theorem int_word {w : List Nat} (h : okNum w = true) : U.int.ev (.str w) = some (.int (numVal w : Nat)) := by
  obtain ⟨h1, h2, h3, _⟩ := okNum_of h
  show (if w.length ≤ 640 then (PySem.intText? ⟨w.toArray⟩).map D.int else none) = _
  rw [if_pos (by omega), intText_digits (x := ⟨w.toArray⟩) h3 (fun z => by
    have : w = [] := z
    rw [this] at h1; cases h1) (by show w.toArray.size ≤ 4300; simp; omega)]
  rfl
theorem str_word {w : List Nat} (h : okNum w = true) : U.str.ev (.int (numVal w : Nat)) = some (.str w) := by
  obtain ⟨h1, h2, h3, h4⟩ := okNum_of h
  have hlt := digits_lt w h3
  have h6 : (10 : Nat) ^ w.length ≤ 10 ^ 6 := Nat.pow_le_pow_right (by decide) h2
  show (if ((numVal w : Nat) : Int).natAbs.log2 < 1920 then some (D.str (numText ((numVal w : Nat) : Int))) else none) = _
  rw [if_pos ?_]
  · show some (D.str (TL.tl (Str.ofString (toString ((numVal w : Nat) : Int))))) = _
    rw [TL.tl_num]
    unfold numVal
    rw [h4]
  · rw [Int.natAbs_natCast]
    by_cases hz : numVal w = 0
    · rw [hz]; decide
    · refine (Nat.log2_lt hz).mpr ?_
      have : numVal w < 10 ^ 6 := Nat.lt_of_lt_of_le hlt h6
      refine Nat.lt_of_lt_of_le this ?_
      exact Nat.le_trans (by decide : 10 ^ 6 ≤ 2 ^ 20) (Nat.pow_le_pow_right (by decide) (by decide))
end K49
end
section
set_option autoImplicit false
/-! P49g: numbers in words. -/
namespace K49
open PySem EV

def Asc (s : List Nat) : Prop := s.length ≤ 1000 ∧ ∀ c ∈ s, c < 128
theorem good_str {a : List Nat} (h : ∀ c ∈ a, c < 128) : (D.str a).good = true := by
  show ((a.toArray.all (· < 0x110000)) && true) = true
  rw [Bool.and_true]
  rw [← Array.all_toList]
  exact List.all_eq_true.mpr fun c hc => decide_eq_true (by have := h c hc; omega)
theorem eq_ss {a b : List Nat} (ha : ∀ c ∈ a, c < 128) (hb : ∀ c ∈ b, c < 128) : D.eq? (.str a) (.str b) = some (decide (a = b)) := by
  unfold D.eq?
  rw [good_str ha, good_str hb]
  show some ((⟨a.toArray⟩ : Str) == (⟨b.toArray⟩ : Str)) = _
  congr 1
  by_cases h : a = b
  · subst h
    rw [beq_self_eq_true, decide_eq_true rfl]
  · rw [decide_eq_false h, beq_eq_false_iff_ne]
    intro z
    apply h
    have : a.toArray = b.toArray := by injection z
    simpa using this
def figs : List Nat := [48, 49, 50, 51, 52, 53, 54, 55, 56, 57]
def fig (c : Nat) : Bool := decide (48 ≤ c) && decide (c ≤ 57)
theorem mem_figs (c : Nat) : decide (c ∈ figs) = fig c := by
  unfold fig figs
  rw [Bool.eq_iff_iff]
  simp only [List.mem_cons, List.mem_nil_iff, or_false, decide_eq_true_eq, Bool.and_eq_true]
  omega
theorem okNum_eq (w : List Nat) : okNum w = (decide (0 < w.length) && decide (w.length ≤ 6) && w.all fig && !(w.head? == some 48 && !(w == [48]))) := rfl
/-- the number of a word, or None -/
def numD (w : List Nat) : D := if okNum w = true then .int (numVal w : Nat) else .non
theorem sAt0 {x : Nat} {xs : List Nat} : L2.atI (x :: xs) 0 = some x := by
  unfold L2.atI L2.ixN
  simp
theorem all_id (w : List Nat) : (w.map fig).all id = w.all fig := by
  rw [List.all_map]
  rfl
theorem number_in_ok (n : Nat) {w : List Nat} (hw : Asc w) : C (n + 1) 21 [.str w] = .ok (numD w) (.str w) := by
  have hz : w.length ≤ sizeLine := len_le hw.1
  rw [C_succ (di := d21) rfl]
  refine run_of (ρ := [some (.str w), none]) rfl ?_
  show evSs (C n) wf0 d21.body [some (.str w), none] = _
  have hk : evE (C n) (.comp [("sign", 1)] (.nm 1) (.seq (.var 0)) (.bin (.cmp .isin) (.var 1) (.glob "DIGITS" (.str figs)))) [some (.str w), none] = .ok (.lst (w.map fun c => .bl (fig c))) [some (.str w), none] := by
    refine comp_one (xs := w) (e := fun c => .str [c]) (g := fun c => .bl (fig c)) ?_ (by simp) hz fun c hc => ?_
    · simp only [EV.v_lit, EV.v_var, EV.v_glob, EV.v_fn, EV.v_un, EV.v_bin, EV.v_slL, EV.v_slH, EV.v_slLH, EV.v_tup, EV.v_lst, EV.v_and, EV.v_or, EV.v_not, EV.v_ite, EV.v_chain, EV.v_call, EV.v_callF, EV.v_callIo, EV.v_callT, EV.v_callv, EV.v_nil, EV.v_cons, EV.v_seq, EV.v_enum, EV.v_zip, EV.v_rng1, EV.v_C, s_asg', s_asgO', s_asg2', s_expr', s_ret', s_retN', s_if', s_raise', ss_nil', ss_cons', r_ok, r_exc, r_opt, t_nm, cr_ok, cr_exc, cr_okS, List.getD_cons_zero, List.getD_cons_succ, List.set_cons_zero, List.set_cons_succ, B.pre, B.ev, Cm.ev, U.ev, D.truth, D.toInt, D.items, if_true, if_false, Bool.not_true, Bool.not_false, reduceCtorEq, Option.map_some, Option.bind_some, List.length_cons, List.length_nil, Nat.zero_add, Nat.reduceAdd, Nat.reduceLT, Nat.reduceLeDiff, Bool.and_true, Bool.true_and, decide_true]
    · simp only [EV.v_lit, EV.v_var, EV.v_glob, EV.v_fn, EV.v_un, EV.v_bin, EV.v_slL, EV.v_slH, EV.v_slLH, EV.v_tup, EV.v_lst, EV.v_and, EV.v_or, EV.v_not, EV.v_ite, EV.v_chain, EV.v_call, EV.v_callF, EV.v_callIo, EV.v_callT, EV.v_callv, EV.v_nil, EV.v_cons, EV.v_seq, EV.v_enum, EV.v_zip, EV.v_rng1, EV.v_C, s_asg', s_asgO', s_asg2', s_expr', s_ret', s_retN', s_if', s_raise', ss_nil', ss_cons', r_ok, r_exc, r_opt, t_nm, cr_ok, cr_exc, cr_okS, List.getD_cons_zero, List.getD_cons_succ, List.set_cons_zero, List.set_cons_succ, B.pre, B.ev, Cm.ev, U.ev, D.truth, D.toInt, D.items, if_true, if_false, Bool.not_true, Bool.not_false, reduceCtorEq, Option.map_some, Option.bind_some, List.length_cons, List.length_nil, Nat.zero_add, Nat.reduceAdd, Nat.reduceLT, Nat.reduceLeDiff, Bool.and_true, Bool.true_and, decide_true, mem_figs]
  have hb : D.bls (w.map fun c => .bl (fig c)) = some (w.map fig) := bls_map fig w
  unfold figs at hk
  unfold numD
  rw [okNum_eq]
  unfold d21
  by_cases c1 : 0 < w.length
  · have i1 : decide ((0 : Int) < ((w.length : Nat) : Int)) = true := decide_eq_true (by omega)
    by_cases c2 : w.length ≤ 6
    · have i2 : decide (((w.length : Nat) : Int) ≤ 6) = true := decide_eq_true (by omega)
      cases c3 : w.all fig with
      | false =>
        simp only [EV.v_lit, EV.v_var, EV.v_glob, EV.v_fn, EV.v_un, EV.v_bin, EV.v_slL, EV.v_slH, EV.v_slLH, EV.v_tup, EV.v_lst, EV.v_and, EV.v_or, EV.v_not, EV.v_ite, EV.v_chain, EV.v_call, EV.v_callF, EV.v_callIo, EV.v_callT, EV.v_callv, EV.v_nil, EV.v_cons, EV.v_seq, EV.v_enum, EV.v_zip, EV.v_rng1, EV.v_C, s_asg', s_asgO', s_asg2', s_expr', s_ret', s_retN', s_if', s_raise', ss_nil', ss_cons', r_ok, r_exc, r_opt, t_nm, cr_ok, cr_exc, cr_okS, List.getD_cons_zero, List.getD_cons_succ, List.set_cons_zero, List.set_cons_succ, B.pre, B.ev, Cm.ev, U.ev, D.truth, D.toInt, D.items, if_true, if_false, Bool.not_true, Bool.not_false, reduceCtorEq, Option.map_some, Option.bind_some, List.length_cons, List.length_nil, Nat.zero_add, Nat.reduceAdd, Nat.reduceLT, Nat.reduceLeDiff, Bool.and_true, Bool.true_and, decide_true, hz, i1, i2, hk, hb, all_id, c3, c1, c2, Bool.and_false, Bool.false_and]
      | true =>
        obtain ⟨x, hx, hat⟩ : ∃ x, w.head? = some x ∧ L2.atI w 0 = some x := by
          cases w with
          | nil => cases c1
          | cons x xs => exact ⟨x, rfl, sAt0⟩
        have hm : x ∈ w := List.mem_of_head? hx
        have ax : ∀ c ∈ [x], c < 128 := fun c hc => by rw [List.mem_singleton.mp hc]; exact hw.2 x hm
        have a0 : ∀ c ∈ ([48] : List Nat), c < 128 := by decide
        have e0 : ([x] = ([48] : List Nat)) = (x = 48) := by simp
        have q1 : ∀ b, decide (x = 48) = b → D.eq? (.str [x]) (.str [48]) = some b := fun b hb => by
          rw [eq_ss ax a0, ← hb]
          simp
        have q2 : ∀ b, decide (w = [48]) = b → D.eq? (.str w) (.str [48]) = some b := fun b hb => by
          rw [eq_ss hw.2 a0, hb]
        by_cases c4 : x = 48
        · have q1 := q1 true (decide_eq_true c4)
          have hx : w.head? = some 48 := by rw [hx, c4]
          by_cases c5 : w = [48]
          · have q2 := q2 true (decide_eq_true c5)
            have hi := int_word (w := w) (by rw [c5]; decide)
            have b5 : (w == [48]) = true := by rw [c5]; rfl
            simp only [U.ev] at hi
            simp only [EV.v_lit, EV.v_var, EV.v_glob, EV.v_fn, EV.v_un, EV.v_bin, EV.v_slL, EV.v_slH, EV.v_slLH, EV.v_tup, EV.v_lst, EV.v_and, EV.v_or, EV.v_not, EV.v_ite, EV.v_chain, EV.v_call, EV.v_callF, EV.v_callIo, EV.v_callT, EV.v_callv, EV.v_nil, EV.v_cons, EV.v_seq, EV.v_enum, EV.v_zip, EV.v_rng1, EV.v_C, s_asg', s_asgO', s_asg2', s_expr', s_ret', s_retN', s_if', s_raise', ss_nil', ss_cons', r_ok, r_exc, r_opt, t_nm, cr_ok, cr_exc, cr_okS, List.getD_cons_zero, List.getD_cons_succ, List.set_cons_zero, List.set_cons_succ, B.pre, B.ev, Cm.ev, U.ev, D.truth, D.toInt, D.items, if_true, if_false, Bool.not_true, Bool.not_false, reduceCtorEq, Option.map_some, Option.bind_some, List.length_cons, List.length_nil, Nat.zero_add, Nat.reduceAdd, Nat.reduceLT, Nat.reduceLeDiff, Bool.and_true, Bool.true_and, decide_true, hz, i1, i2, hk, hb, all_id, c3, c1, c2, hat, hx, q1, q2, b5, hi, Bool.not_true, Bool.and_false, beq_self_eq_true]
          · have q2 := q2 false (decide_eq_false c5)
            have b5 : (w == [48]) = false := beq_eq_false_iff_ne.mpr c5
            simp only [EV.v_lit, EV.v_var, EV.v_glob, EV.v_fn, EV.v_un, EV.v_bin, EV.v_slL, EV.v_slH, EV.v_slLH, EV.v_tup, EV.v_lst, EV.v_and, EV.v_or, EV.v_not, EV.v_ite, EV.v_chain, EV.v_call, EV.v_callF, EV.v_callIo, EV.v_callT, EV.v_callv, EV.v_nil, EV.v_cons, EV.v_seq, EV.v_enum, EV.v_zip, EV.v_rng1, EV.v_C, s_asg', s_asgO', s_asg2', s_expr', s_ret', s_retN', s_if', s_raise', ss_nil', ss_cons', r_ok, r_exc, r_opt, t_nm, cr_ok, cr_exc, cr_okS, List.getD_cons_zero, List.getD_cons_succ, List.set_cons_zero, List.set_cons_succ, B.pre, B.ev, Cm.ev, U.ev, D.truth, D.toInt, D.items, if_true, if_false, Bool.not_true, Bool.not_false, reduceCtorEq, Option.map_some, Option.bind_some, List.length_cons, List.length_nil, Nat.zero_add, Nat.reduceAdd, Nat.reduceLT, Nat.reduceLeDiff, Bool.and_true, Bool.true_and, decide_true, hz, i1, i2, hk, hb, all_id, c3, c1, c2, hat, hx, q1, q2, b5, Bool.not_true, Bool.and_false, beq_self_eq_true, decide_false, Bool.not_false]
        · have q1 := q1 false (decide_eq_false c4)
          have b4 : (some x == some 48) = false := beq_eq_false_iff_ne.mpr fun z => c4 (Option.some.inj z)
          have hi := int_word (w := w) (by rw [okNum_eq, hx]; simp only [c1, c2, c3, b4]; rfl)
          simp only [U.ev] at hi
          simp only [EV.v_lit, EV.v_var, EV.v_glob, EV.v_fn, EV.v_un, EV.v_bin, EV.v_slL, EV.v_slH, EV.v_slLH, EV.v_tup, EV.v_lst, EV.v_and, EV.v_or, EV.v_not, EV.v_ite, EV.v_chain, EV.v_call, EV.v_callF, EV.v_callIo, EV.v_callT, EV.v_callv, EV.v_nil, EV.v_cons, EV.v_seq, EV.v_enum, EV.v_zip, EV.v_rng1, EV.v_C, s_asg', s_asgO', s_asg2', s_expr', s_ret', s_retN', s_if', s_raise', ss_nil', ss_cons', r_ok, r_exc, r_opt, t_nm, cr_ok, cr_exc, cr_okS, List.getD_cons_zero, List.getD_cons_succ, List.set_cons_zero, List.set_cons_succ, B.pre, B.ev, Cm.ev, U.ev, D.truth, D.toInt, D.items, if_true, if_false, Bool.not_true, Bool.not_false, reduceCtorEq, Option.map_some, Option.bind_some, List.length_cons, List.length_nil, Nat.zero_add, Nat.reduceAdd, Nat.reduceLT, Nat.reduceLeDiff, Bool.and_true, Bool.true_and, decide_true, hz, i1, i2, hk, hb, all_id, c3, c1, c2, hat, hx, q1, b4, hi, Bool.false_and, Bool.not_true, Bool.and_false, beq_self_eq_true, decide_false, Bool.not_false]
    · have i2 : decide (((w.length : Nat) : Int) ≤ 6) = false := decide_eq_false (by omega)
      simp only [EV.v_lit, EV.v_var, EV.v_glob, EV.v_fn, EV.v_un, EV.v_bin, EV.v_slL, EV.v_slH, EV.v_slLH, EV.v_tup, EV.v_lst, EV.v_and, EV.v_or, EV.v_not, EV.v_ite, EV.v_chain, EV.v_call, EV.v_callF, EV.v_callIo, EV.v_callT, EV.v_callv, EV.v_nil, EV.v_cons, EV.v_seq, EV.v_enum, EV.v_zip, EV.v_rng1, EV.v_C, s_asg', s_asgO', s_asg2', s_expr', s_ret', s_retN', s_if', s_raise', ss_nil', ss_cons', r_ok, r_exc, r_opt, t_nm, cr_ok, cr_exc, cr_okS, List.getD_cons_zero, List.getD_cons_succ, List.set_cons_zero, List.set_cons_succ, B.pre, B.ev, Cm.ev, U.ev, D.truth, D.toInt, D.items, if_true, if_false, Bool.not_true, Bool.not_false, reduceCtorEq, Option.map_some, Option.bind_some, List.length_cons, List.length_nil, Nat.zero_add, Nat.reduceAdd, Nat.reduceLT, Nat.reduceLeDiff, Bool.and_true, Bool.true_and, decide_true, hz, i1, i2, c1, c2, Bool.and_false, Bool.false_and, decide_false]
  · have i1 : decide ((0 : Int) < ((w.length : Nat) : Int)) = false := decide_eq_false (by omega)
    simp only [EV.v_lit, EV.v_var, EV.v_glob, EV.v_fn, EV.v_un, EV.v_bin, EV.v_slL, EV.v_slH, EV.v_slLH, EV.v_tup, EV.v_lst, EV.v_and, EV.v_or, EV.v_not, EV.v_ite, EV.v_chain, EV.v_call, EV.v_callF, EV.v_callIo, EV.v_callT, EV.v_callv, EV.v_nil, EV.v_cons, EV.v_seq, EV.v_enum, EV.v_zip, EV.v_rng1, EV.v_C, s_asg', s_asgO', s_asg2', s_expr', s_ret', s_retN', s_if', s_raise', ss_nil', ss_cons', r_ok, r_exc, r_opt, t_nm, cr_ok, cr_exc, cr_okS, List.getD_cons_zero, List.getD_cons_succ, List.set_cons_zero, List.set_cons_succ, B.pre, B.ev, Cm.ev, U.ev, D.truth, D.toInt, D.items, if_true, if_false, Bool.not_true, Bool.not_false, reduceCtorEq, Option.map_some, Option.bind_some, List.length_cons, List.length_nil, Nat.zero_add, Nat.reduceAdd, Nat.reduceLT, Nat.reduceLeDiff, Bool.and_true, Bool.true_and, decide_true, hz, i1, c1, Bool.and_false, Bool.false_and, decide_false]
end K49
end
section
set_option autoImplicit false
/-! P49h: rows of numbers. -/
namespace K49
open PySem EV

/-- data that may be compared, not too deep -/
def Gd (k : Nat) (d : D) : Prop := d.py.canLay0 = true ∧ d.py.depth ≤ k
theorem Gd.mono {k j : Nat} {d : D} (h : Gd k d) (hj : k ≤ j) : Gd j d := ⟨h.1, Nat.le_trans h.2 hj⟩
theorem Gd.good {k : Nat} {d : D} (h : Gd k d) (hk : k ≤ 64) : d.good = true := by
  show (d.py.canLay0 && decide (d.py.depth ≤ 64)) = true
  rw [h.1, Bool.true_and]
  exact decide_eq_true (Nat.le_trans h.2 hk)
theorem gd_pys {k : Nat} : ∀ {ds : List D}, (∀ d ∈ ds, Gd k d) → PyData.canLayAll0 (D.pys ds) = true ∧ PyData.depthAll (D.pys ds) ≤ k
  | [], _ => ⟨rfl, Nat.zero_le _⟩
  | d :: ds, h => by
    obtain ⟨h1, h2⟩ := h d List.mem_cons_self
    obtain ⟨h3, h4⟩ := gd_pys fun e he => h e (List.mem_cons_of_mem _ he)
    refine ⟨?_, ?_⟩
    · show (d.py.canLay0 && PyData.canLayAll0 (D.pys ds)) = true
      rw [h1, h3]
      rfl
    · show max d.py.depth (PyData.depthAll (D.pys ds)) ≤ k
      exact Nat.max_le.mpr ⟨h2, h4⟩
theorem gd_lst {k : Nat} {ds : List D} (h : ∀ d ∈ ds, Gd k d) : Gd (k + 1) (.lst ds) := ⟨(gd_pys h).1, Nat.succ_le_succ (gd_pys h).2⟩
theorem gd_tup {k : Nat} {ds : List D} (h : ∀ d ∈ ds, Gd k d) : Gd (k + 1) (.tup ds) := ⟨(gd_pys h).1, Nat.succ_le_succ (gd_pys h).2⟩
theorem gd_non (k : Nat) : Gd k .non := ⟨rfl, Nat.zero_le _⟩
theorem gd_int (k : Nat) (i : Int) : Gd k (.int i) := ⟨rfl, Nat.zero_le _⟩
theorem gd_str (k : Nat) {s : List Nat} (h : ∀ c ∈ s, c < 128) : Gd k (.str s) := by
  have := good_str h
  unfold D.good SeqAt.shaped at this
  rw [Bool.and_eq_true] at this
  exact ⟨this.1, Nat.zero_le _⟩
theorem in_some {k : Nat} {x : D} {ds : List D} (hx : Gd k x) (h : ∀ d ∈ ds, Gd k d) (hk : k < 64) : D.in? x ds = some (ds.any fun y => y.eqv x) := by
  unfold D.in?
  rw [hx.good (by omega), (gd_lst h).good (by omega)]
  rfl
theorem eq_some {k : Nat} {a b : D} (ha : Gd k a) (hb : Gd k b) (hk : k ≤ 64) : D.eq? a b = some (a.eqv b) := by
  unfold D.eq?
  rw [ha.good hk, hb.good hk]
  rfl
def isNon : D → Bool
  | .non => true
  | _ => false
theorem eqv_non (d : D) (hf : ∀ f, d ≠ .fn f) : d.eqv .non = isNon d := by
  cases d <;> first | rfl | exact absurd rfl (hf _)

theorem gd_numD (k : Nat) (w : List Nat) : Gd k (numD w) := by
  unfold numD
  split
  · exact gd_int _ _
  · exact gd_non _
theorem non_numD (w : List Nat) : (numD w).eqv .non = !okNum w := by
  unfold numD
  cases okNum w <;> rfl
theorem any_non (ws : List (List Nat)) : ((ws.map numD).any fun y => y.eqv .non) = !ws.all okNum := by
  rw [List.any_map]
  induction ws with
  | nil => rfl
  | cons w ws ih =>
    rw [List.any_cons, List.all_cons, Bool.not_and, ih]
    show ((numD w).eqv .non || _) = _
    rw [non_numD]
/-- the numbers of words, or None -/
def numsD (ws : List (List Nat)) : D := if ws.all okNum = true then .tup (ws.map fun w => .int (numVal w : Nat)) else .non
theorem map_numD {ws : List (List Nat)} (h : ws.all okNum = true) : ws.map numD = ws.map fun w => .int (numVal w : Nat) := List.map_congr_left fun w hw => if_pos (List.all_eq_true.mp h w hw)
theorem in_nums (ws : List (List Nat)) : D.in? .non (ws.map numD) = some (!ws.all okNum) := by
  rw [in_some (k := 1) (gd_non 1) (fun d hd => by
    obtain ⟨w, _, rfl⟩ := List.mem_map.mp hd
    exact gd_numD 1 w) (by decide), any_non]
theorem numbers_in_ok (n : Nat) {ws : List (List Nat)} (hl : ws.length ≤ 1000) (hw : ∀ w ∈ ws, Asc w) : C (n + 2) 27 [.lst (ws.map .str)] = .ok (numsD ws) (.lst (ws.map .str)) := by
  rw [C_succ (di := d27) rfl]
  refine run_of (ρ := [some (.lst (ws.map .str)), some (.tup (ws.map numD)), none]) rfl ?_
  show evSs (C (n + 1)) wf0 d27.body [some (.lst (ws.map .str)), none, none] = _
  have hk : evE (C (n + 1)) (.comp [("word", 2)] (.nm 2) (.seq (.var 0)) (.call false false 21 (.cons (.var 2) .nil))) [some (.lst (ws.map .str)), none, none] = .ok (.lst (ws.map numD)) [some (.lst (ws.map .str)), none, none] := by
    refine comp_one (xs := ws) (e := .str) (g := numD) ?_ (by simp) (len_le hl) fun w hw' => ?_
    · simp only [EV.v_lit, EV.v_var, EV.v_glob, EV.v_fn, EV.v_un, EV.v_bin, EV.v_slL, EV.v_slH, EV.v_slLH, EV.v_tup, EV.v_lst, EV.v_and, EV.v_or, EV.v_not, EV.v_ite, EV.v_chain, EV.v_call, EV.v_callF, EV.v_callIo, EV.v_callT, EV.v_callv, EV.v_nil, EV.v_cons, EV.v_seq, EV.v_enum, EV.v_zip, EV.v_rng1, EV.v_C, s_asg', s_asgO', s_asg2', s_expr', s_ret', s_retN', s_if', s_raise', ss_nil', ss_cons', r_ok, r_exc, r_opt, t_nm, cr_ok, cr_exc, cr_okS, List.getD_cons_zero, List.getD_cons_succ, List.set_cons_zero, List.set_cons_succ, B.pre, B.ev, Cm.ev, U.ev, D.truth, D.toInt, D.items, if_true, if_false, Bool.not_true, Bool.not_false, reduceCtorEq, Option.map_some, Option.bind_some, List.length_cons, List.length_nil, Nat.zero_add, Nat.reduceAdd, Nat.reduceLT, Nat.reduceLeDiff, Bool.and_true, Bool.true_and, decide_true]
    · simp only [EV.v_lit, EV.v_var, EV.v_glob, EV.v_fn, EV.v_un, EV.v_bin, EV.v_slL, EV.v_slH, EV.v_slLH, EV.v_tup, EV.v_lst, EV.v_and, EV.v_or, EV.v_not, EV.v_ite, EV.v_chain, EV.v_call, EV.v_callF, EV.v_callIo, EV.v_callT, EV.v_callv, EV.v_nil, EV.v_cons, EV.v_seq, EV.v_enum, EV.v_zip, EV.v_rng1, EV.v_C, s_asg', s_asgO', s_asg2', s_expr', s_ret', s_retN', s_if', s_raise', ss_nil', ss_cons', r_ok, r_exc, r_opt, t_nm, cr_ok, cr_exc, cr_okS, List.getD_cons_zero, List.getD_cons_succ, List.set_cons_zero, List.set_cons_succ, B.pre, B.ev, Cm.ev, U.ev, D.truth, D.toInt, D.items, if_true, if_false, Bool.not_true, Bool.not_false, reduceCtorEq, Option.map_some, Option.bind_some, List.length_cons, List.length_nil, Nat.zero_add, Nat.reduceAdd, Nat.reduceLT, Nat.reduceLeDiff, Bool.and_true, Bool.true_and, decide_true, number_in_ok n (hw w hw')]
  have hin := in_nums ws
  unfold d27 numsD
  cases hb : ws.all okNum with
  | true =>
    rw [hb] at hin
    simp only [EV.v_lit, EV.v_var, EV.v_glob, EV.v_fn, EV.v_un, EV.v_bin, EV.v_slL, EV.v_slH, EV.v_slLH, EV.v_tup, EV.v_lst, EV.v_and, EV.v_or, EV.v_not, EV.v_ite, EV.v_chain, EV.v_call, EV.v_callF, EV.v_callIo, EV.v_callT, EV.v_callv, EV.v_nil, EV.v_cons, EV.v_seq, EV.v_enum, EV.v_zip, EV.v_rng1, EV.v_C, s_asg', s_asgO', s_asg2', s_expr', s_ret', s_retN', s_if', s_raise', ss_nil', ss_cons', r_ok, r_exc, r_opt, t_nm, cr_ok, cr_exc, cr_okS, List.getD_cons_zero, List.getD_cons_succ, List.set_cons_zero, List.set_cons_succ, B.pre, B.ev, Cm.ev, U.ev, D.truth, D.toInt, D.items, if_true, if_false, Bool.not_true, Bool.not_false, reduceCtorEq, Option.map_some, Option.bind_some, List.length_cons, List.length_nil, Nat.zero_add, Nat.reduceAdd, Nat.reduceLT, Nat.reduceLeDiff, Bool.and_true, Bool.true_and, decide_true, hk, hin]
    rw [map_numD hb]
  | false =>
    rw [hb] at hin
    simp only [EV.v_lit, EV.v_var, EV.v_glob, EV.v_fn, EV.v_un, EV.v_bin, EV.v_slL, EV.v_slH, EV.v_slLH, EV.v_tup, EV.v_lst, EV.v_and, EV.v_or, EV.v_not, EV.v_ite, EV.v_chain, EV.v_call, EV.v_callF, EV.v_callIo, EV.v_callT, EV.v_callv, EV.v_nil, EV.v_cons, EV.v_seq, EV.v_enum, EV.v_zip, EV.v_rng1, EV.v_C, s_asg', s_asgO', s_asg2', s_expr', s_ret', s_retN', s_if', s_raise', ss_nil', ss_cons', r_ok, r_exc, r_opt, t_nm, cr_ok, cr_exc, cr_okS, List.getD_cons_zero, List.getD_cons_succ, List.set_cons_zero, List.set_cons_succ, B.pre, B.ev, Cm.ev, U.ev, D.truth, D.toInt, D.items, if_true, if_false, Bool.not_true, Bool.not_false, reduceCtorEq, Option.map_some, Option.bind_some, List.length_cons, List.length_nil, Nat.zero_add, Nat.reduceAdd, Nat.reduceLT, Nat.reduceLeDiff, Bool.and_true, Bool.true_and, decide_true, hk, hin]
theorem law_number_ok (n : Nat) {w : List Nat} (hw : Asc w) : C (n + 1) 47 [.str w] = .ok (numD w) (.str w) := by
  have hz : w.length ≤ sizeLine := len_le hw.1
  rw [C_succ (di := d47) rfl]
  refine run_of (ρ := [some (.str w), none]) rfl ?_
  show evSs (C n) wf0 d47.body [some (.str w), none] = _
  have hk : evE (C n) (.compIf [("sign", 1)] (.nm 1) (.seq (.var 0)) (.bin (.cmp .notin) (.var 1) (.lit (.str figs))) (.var 1)) [some (.str w), none] = .ok (.lst ((w.filter fun c => !fig c).map fun c => .str [c])) [some (.str w), none] := by
    refine comp_two (xs := w) (e := fun c => .str [c]) (g := fun c => .str [c]) (p := fun c => !fig c) ?_ (by simp) hz (fun c hc => ?_) fun c hc hp => ?_
    · simp only [EV.v_lit, EV.v_var, EV.v_glob, EV.v_fn, EV.v_un, EV.v_bin, EV.v_slL, EV.v_slH, EV.v_slLH, EV.v_tup, EV.v_lst, EV.v_and, EV.v_or, EV.v_not, EV.v_ite, EV.v_chain, EV.v_call, EV.v_callF, EV.v_callIo, EV.v_callT, EV.v_callv, EV.v_nil, EV.v_cons, EV.v_seq, EV.v_enum, EV.v_zip, EV.v_rng1, EV.v_C, s_asg', s_asgO', s_asg2', s_expr', s_ret', s_retN', s_if', s_raise', ss_nil', ss_cons', r_ok, r_exc, r_opt, t_nm, cr_ok, cr_exc, cr_okS, List.getD_cons_zero, List.getD_cons_succ, List.set_cons_zero, List.set_cons_succ, B.pre, B.ev, Cm.ev, U.ev, D.truth, D.toInt, D.items, if_true, if_false, Bool.not_true, Bool.not_false, reduceCtorEq, Option.map_some, Option.bind_some, List.length_cons, List.length_nil, Nat.zero_add, Nat.reduceAdd, Nat.reduceLT, Nat.reduceLeDiff, Bool.and_true, Bool.true_and, decide_true]
    · simp only [EV.v_lit, EV.v_var, EV.v_glob, EV.v_fn, EV.v_un, EV.v_bin, EV.v_slL, EV.v_slH, EV.v_slLH, EV.v_tup, EV.v_lst, EV.v_and, EV.v_or, EV.v_not, EV.v_ite, EV.v_chain, EV.v_call, EV.v_callF, EV.v_callIo, EV.v_callT, EV.v_callv, EV.v_nil, EV.v_cons, EV.v_seq, EV.v_enum, EV.v_zip, EV.v_rng1, EV.v_C, s_asg', s_asgO', s_asg2', s_expr', s_ret', s_retN', s_if', s_raise', ss_nil', ss_cons', r_ok, r_exc, r_opt, t_nm, cr_ok, cr_exc, cr_okS, List.getD_cons_zero, List.getD_cons_succ, List.set_cons_zero, List.set_cons_succ, B.pre, B.ev, Cm.ev, U.ev, D.truth, D.toInt, D.items, if_true, if_false, Bool.not_true, Bool.not_false, reduceCtorEq, Option.map_some, Option.bind_some, List.length_cons, List.length_nil, Nat.zero_add, Nat.reduceAdd, Nat.reduceLT, Nat.reduceLeDiff, Bool.and_true, Bool.true_and, decide_true, mem_figs]
    · simp only [EV.v_lit, EV.v_var, EV.v_glob, EV.v_fn, EV.v_un, EV.v_bin, EV.v_slL, EV.v_slH, EV.v_slLH, EV.v_tup, EV.v_lst, EV.v_and, EV.v_or, EV.v_not, EV.v_ite, EV.v_chain, EV.v_call, EV.v_callF, EV.v_callIo, EV.v_callT, EV.v_callv, EV.v_nil, EV.v_cons, EV.v_seq, EV.v_enum, EV.v_zip, EV.v_rng1, EV.v_C, s_asg', s_asgO', s_asg2', s_expr', s_ret', s_retN', s_if', s_raise', ss_nil', ss_cons', r_ok, r_exc, r_opt, t_nm, cr_ok, cr_exc, cr_okS, List.getD_cons_zero, List.getD_cons_succ, List.set_cons_zero, List.set_cons_succ, B.pre, B.ev, Cm.ev, U.ev, D.truth, D.toInt, D.items, if_true, if_false, Bool.not_true, Bool.not_false, reduceCtorEq, Option.map_some, Option.bind_some, List.length_cons, List.length_nil, Nat.zero_add, Nat.reduceAdd, Nat.reduceLT, Nat.reduceLeDiff, Bool.and_true, Bool.true_and, decide_true]
  have he : D.eq? (.lst ((w.filter fun c => !fig c).map fun c => .str [c])) (.lst []) = some (w.all fig) := by
    rw [eq_some (k := 2) (gd_lst fun d hd => ?_) (gd_lst fun d hd => by cases hd) (by decide)]
    · congr 1
      cases hb : w.all fig with
      | true =>
        have : w.filter (fun c => !fig c) = [] := List.filter_eq_nil_iff.mpr fun c hc => by rw [List.all_eq_true.mp hb c hc]; decide
        rw [this]
        rfl
      | false =>
        cases hf : w.filter (fun c => !fig c) with
        | nil =>
          have : w.all fig = true := List.all_eq_true.mpr fun c hc => by
            have := List.filter_eq_nil_iff.mp hf c hc
            simpa using this
          rw [this] at hb; cases hb
        | cons c r => rfl
    · obtain ⟨c, hc, rfl⟩ := List.mem_map.mp hd
      exact gd_str 1 fun x hx => by rw [List.mem_singleton.mp hx]; exact hw.2 c (List.mem_filter.mp hc).1
  unfold figs at hk
  unfold numD
  rw [okNum_eq]
  unfold d47
  by_cases c1 : 0 < w.length
  · have i1 : decide ((0 : Int) < ((w.length : Nat) : Int)) = true := decide_eq_true (by omega)
    by_cases c2 : w.length ≤ 6
    · have i2 : decide (((w.length : Nat) : Int) < 7) = true := decide_eq_true (by omega)
      cases c3 : w.all fig with
      | false =>
        rw [c3] at he
        simp only [EV.v_lit, EV.v_var, EV.v_glob, EV.v_fn, EV.v_un, EV.v_bin, EV.v_slL, EV.v_slH, EV.v_slLH, EV.v_tup, EV.v_lst, EV.v_and, EV.v_or, EV.v_not, EV.v_ite, EV.v_chain, EV.v_call, EV.v_callF, EV.v_callIo, EV.v_callT, EV.v_callv, EV.v_nil, EV.v_cons, EV.v_seq, EV.v_enum, EV.v_zip, EV.v_rng1, EV.v_C, s_asg', s_asgO', s_asg2', s_expr', s_ret', s_retN', s_if', s_raise', ss_nil', ss_cons', r_ok, r_exc, r_opt, t_nm, cr_ok, cr_exc, cr_okS, List.getD_cons_zero, List.getD_cons_succ, List.set_cons_zero, List.set_cons_succ, B.pre, B.ev, Cm.ev, U.ev, D.truth, D.toInt, D.items, if_true, if_false, Bool.not_true, Bool.not_false, reduceCtorEq, Option.map_some, Option.bind_some, List.length_cons, List.length_nil, Nat.zero_add, Nat.reduceAdd, Nat.reduceLT, Nat.reduceLeDiff, Bool.and_true, Bool.true_and, decide_true, hz, i1, i2, hk, he, c3, c1, c2, Bool.and_false, Bool.false_and]
      | true =>
        rw [c3] at he
        obtain ⟨x, hx, hat⟩ : ∃ x, w.head? = some x ∧ L2.atI w 0 = some x := by
          cases w with
          | nil => cases c1
          | cons x xs => exact ⟨x, rfl, sAt0⟩
        have hm : x ∈ w := List.mem_of_head? hx
        have ax : ∀ c ∈ [x], c < 128 := fun c hc => by rw [List.mem_singleton.mp hc]; exact hw.2 x hm
        have a0 : ∀ c ∈ ([48] : List Nat), c < 128 := by decide
        have q1 : ∀ b, decide (x = 48) = b → D.eq? (.str [x]) (.str [48]) = some b := fun b hb => by
          rw [eq_ss ax a0, ← hb]
          simp
        by_cases c4 : x = 48
        · have q1 := q1 true (decide_eq_true c4)
          have hx : w.head? = some 48 := by rw [hx, c4]
          by_cases c5 : w = [48]
          · have hi := int_word (w := w) (by rw [c5]; decide)
            have b5 : (w == [48]) = true := by rw [c5]; rfl
            have b6 : decide ((1 : Int) < ((w.length : Nat) : Int)) = false := by rw [c5]; rfl
            simp only [U.ev] at hi
            simp only [EV.v_lit, EV.v_var, EV.v_glob, EV.v_fn, EV.v_un, EV.v_bin, EV.v_slL, EV.v_slH, EV.v_slLH, EV.v_tup, EV.v_lst, EV.v_and, EV.v_or, EV.v_not, EV.v_ite, EV.v_chain, EV.v_call, EV.v_callF, EV.v_callIo, EV.v_callT, EV.v_callv, EV.v_nil, EV.v_cons, EV.v_seq, EV.v_enum, EV.v_zip, EV.v_rng1, EV.v_C, s_asg', s_asgO', s_asg2', s_expr', s_ret', s_retN', s_if', s_raise', ss_nil', ss_cons', r_ok, r_exc, r_opt, t_nm, cr_ok, cr_exc, cr_okS, List.getD_cons_zero, List.getD_cons_succ, List.set_cons_zero, List.set_cons_succ, B.pre, B.ev, Cm.ev, U.ev, D.truth, D.toInt, D.items, if_true, if_false, Bool.not_true, Bool.not_false, reduceCtorEq, Option.map_some, Option.bind_some, List.length_cons, List.length_nil, Nat.zero_add, Nat.reduceAdd, Nat.reduceLT, Nat.reduceLeDiff, Bool.and_true, Bool.true_and, decide_true, hz, i1, i2, hk, he, c3, c1, c2, hat, hx, q1, b5, b6, hi, Bool.not_true, Bool.and_false, beq_self_eq_true]
          · have b5 : (w == [48]) = false := beq_eq_false_iff_ne.mpr c5
            have b6 : decide ((1 : Int) < ((w.length : Nat) : Int)) = true := decide_eq_true (by
              match w, hx, c5 with
              | [y], hx, c5 => exact absurd (by rw [Option.some.inj hx]) c5
              | y :: y' :: r, _, _ => simp only [List.length_cons]; omega)
            simp only [EV.v_lit, EV.v_var, EV.v_glob, EV.v_fn, EV.v_un, EV.v_bin, EV.v_slL, EV.v_slH, EV.v_slLH, EV.v_tup, EV.v_lst, EV.v_and, EV.v_or, EV.v_not, EV.v_ite, EV.v_chain, EV.v_call, EV.v_callF, EV.v_callIo, EV.v_callT, EV.v_callv, EV.v_nil, EV.v_cons, EV.v_seq, EV.v_enum, EV.v_zip, EV.v_rng1, EV.v_C, s_asg', s_asgO', s_asg2', s_expr', s_ret', s_retN', s_if', s_raise', ss_nil', ss_cons', r_ok, r_exc, r_opt, t_nm, cr_ok, cr_exc, cr_okS, List.getD_cons_zero, List.getD_cons_succ, List.set_cons_zero, List.set_cons_succ, B.pre, B.ev, Cm.ev, U.ev, D.truth, D.toInt, D.items, if_true, if_false, Bool.not_true, Bool.not_false, reduceCtorEq, Option.map_some, Option.bind_some, List.length_cons, List.length_nil, Nat.zero_add, Nat.reduceAdd, Nat.reduceLT, Nat.reduceLeDiff, Bool.and_true, Bool.true_and, decide_true, hz, i1, i2, hk, he, c3, c1, c2, hat, hx, q1, b5, b6, Bool.not_true, Bool.and_false, beq_self_eq_true, decide_false, Bool.not_false]
        · have q1 := q1 false (decide_eq_false c4)
          have b4 : (some x == some 48) = false := beq_eq_false_iff_ne.mpr fun z => c4 (Option.some.inj z)
          have hi := int_word (w := w) (by rw [okNum_eq, hx]; simp only [c1, c2, c3, b4]; rfl)
          simp only [U.ev] at hi
          simp only [EV.v_lit, EV.v_var, EV.v_glob, EV.v_fn, EV.v_un, EV.v_bin, EV.v_slL, EV.v_slH, EV.v_slLH, EV.v_tup, EV.v_lst, EV.v_and, EV.v_or, EV.v_not, EV.v_ite, EV.v_chain, EV.v_call, EV.v_callF, EV.v_callIo, EV.v_callT, EV.v_callv, EV.v_nil, EV.v_cons, EV.v_seq, EV.v_enum, EV.v_zip, EV.v_rng1, EV.v_C, s_asg', s_asgO', s_asg2', s_expr', s_ret', s_retN', s_if', s_raise', ss_nil', ss_cons', r_ok, r_exc, r_opt, t_nm, cr_ok, cr_exc, cr_okS, List.getD_cons_zero, List.getD_cons_succ, List.set_cons_zero, List.set_cons_succ, B.pre, B.ev, Cm.ev, U.ev, D.truth, D.toInt, D.items, if_true, if_false, Bool.not_true, Bool.not_false, reduceCtorEq, Option.map_some, Option.bind_some, List.length_cons, List.length_nil, Nat.zero_add, Nat.reduceAdd, Nat.reduceLT, Nat.reduceLeDiff, Bool.and_true, Bool.true_and, decide_true, hz, i1, i2, hk, he, c3, c1, c2, hat, hx, q1, b4, hi, Bool.false_and, Bool.not_true, Bool.and_false, beq_self_eq_true, decide_false, Bool.not_false]
    · have i2 : decide (((w.length : Nat) : Int) < 7) = false := decide_eq_false (by omega)
      simp only [EV.v_lit, EV.v_var, EV.v_glob, EV.v_fn, EV.v_un, EV.v_bin, EV.v_slL, EV.v_slH, EV.v_slLH, EV.v_tup, EV.v_lst, EV.v_and, EV.v_or, EV.v_not, EV.v_ite, EV.v_chain, EV.v_call, EV.v_callF, EV.v_callIo, EV.v_callT, EV.v_callv, EV.v_nil, EV.v_cons, EV.v_seq, EV.v_enum, EV.v_zip, EV.v_rng1, EV.v_C, s_asg', s_asgO', s_asg2', s_expr', s_ret', s_retN', s_if', s_raise', ss_nil', ss_cons', r_ok, r_exc, r_opt, t_nm, cr_ok, cr_exc, cr_okS, List.getD_cons_zero, List.getD_cons_succ, List.set_cons_zero, List.set_cons_succ, B.pre, B.ev, Cm.ev, U.ev, D.truth, D.toInt, D.items, if_true, if_false, Bool.not_true, Bool.not_false, reduceCtorEq, Option.map_some, Option.bind_some, List.length_cons, List.length_nil, Nat.zero_add, Nat.reduceAdd, Nat.reduceLT, Nat.reduceLeDiff, Bool.and_true, Bool.true_and, decide_true, hz, i1, i2, c1, c2, Bool.and_false, Bool.false_and, decide_false]
  · have i1 : decide ((0 : Int) < ((w.length : Nat) : Int)) = false := decide_eq_false (by omega)
    simp only [EV.v_lit, EV.v_var, EV.v_glob, EV.v_fn, EV.v_un, EV.v_bin, EV.v_slL, EV.v_slH, EV.v_slLH, EV.v_tup, EV.v_lst, EV.v_and, EV.v_or, EV.v_not, EV.v_ite, EV.v_chain, EV.v_call, EV.v_callF, EV.v_callIo, EV.v_callT, EV.v_callv, EV.v_nil, EV.v_cons, EV.v_seq, EV.v_enum, EV.v_zip, EV.v_rng1, EV.v_C, s_asg', s_asgO', s_asg2', s_expr', s_ret', s_retN', s_if', s_raise', ss_nil', ss_cons', r_ok, r_exc, r_opt, t_nm, cr_ok, cr_exc, cr_okS, List.getD_cons_zero, List.getD_cons_succ, List.set_cons_zero, List.set_cons_succ, B.pre, B.ev, Cm.ev, U.ev, D.truth, D.toInt, D.items, if_true, if_false, Bool.not_true, Bool.not_false, reduceCtorEq, Option.map_some, Option.bind_some, List.length_cons, List.length_nil, Nat.zero_add, Nat.reduceAdd, Nat.reduceLT, Nat.reduceLeDiff, Bool.and_true, Bool.true_and, decide_true, hz, i1, c1, Bool.and_false, Bool.false_and, decide_false]
end K49
end
section
set_option autoImplicit false
/-! P49i: texts cut in parts. -/
namespace K49
open PySem EV

/-- what the parts are made of -/
theorem spl_parts (S : List Nat) : ∀ (k : Nat) (acc l : List Nat), (∀ w ∈ TL.spl S k acc l, (∀ c ∈ w, c ∈ acc ∨ c ∈ l) ∧ w.length ≤ acc.length + l.length) ∧ (TL.spl S k acc l).length ≤ l.length + 1
  | k, acc, [] => by
    rw [TL.spl_nil]
    refine ⟨fun w hw => ?_, by simp⟩
    rw [List.mem_singleton.mp hw]
    exact ⟨fun c hc => .inl hc, by simp⟩
  | 0, acc, c :: r => by
    cases hp : TL.pre S (c :: r) with
    | true =>
      rw [TL.spl_hit hp]
      obtain ⟨h1, h2⟩ := spl_parts S (S.length - 1) [] r
      refine ⟨fun w hw => ?_, by simp only [List.length_cons]; omega⟩
      rcases List.mem_cons.mp hw with rfl | hw
      · exact ⟨fun c hc => .inl hc, by omega⟩
      · obtain ⟨g1, g2⟩ := h1 w hw
        refine ⟨fun x hx => .inr (List.mem_cons_of_mem _ ((g1 x hx).resolve_left fun z => nomatch z)), ?_⟩
        simp only [List.length_nil, List.length_cons] at g2 ⊢
        omega
    | false =>
      rw [TL.spl_miss hp]
      obtain ⟨h1, h2⟩ := spl_parts S 0 (acc ++ [c]) r
      refine ⟨fun w hw => ?_, by simp only [List.length_cons]; omega⟩
      obtain ⟨g1, g2⟩ := h1 w hw
      refine ⟨fun x hx => ?_, ?_⟩
      · rcases g1 x hx with g | g
        · rcases List.mem_append.mp g with g | g
          · exact .inl g
          · exact .inr (by rw [List.mem_singleton.mp g]; exact List.mem_cons_self)
        · exact .inr (List.mem_cons_of_mem _ g)
      · simp only [List.length_append, List.length_cons, List.length_nil] at g2 ⊢
        omega
  | k + 1, acc, c :: r => by
    show (∀ w ∈ TL.spl S k acc r, _) ∧ (TL.spl S k acc r).length ≤ _
    obtain ⟨h1, h2⟩ := spl_parts S k acc r
    refine ⟨fun w hw => ?_, by simp only [List.length_cons]; omega⟩
    obtain ⟨g1, g2⟩ := h1 w hw
    refine ⟨fun x hx => (g1 x hx).imp (fun g => g) (List.mem_cons_of_mem _), ?_⟩
    simp only [List.length_cons]
    omega
abbrev parts (S s : List Nat) : List (List Nat) := TL.spl S 0 [] s
theorem parts_asc {S s : List Nat} (h : Asc s) : ∀ w ∈ parts S s, Asc w := fun w hw => by
  obtain ⟨g1, g2⟩ := (spl_parts S 0 [] s).1 w hw
  exact ⟨Nat.le_trans g2 (by simpa using h.1), fun c hc => h.2 c ((g1 c hc).resolve_left fun z => nomatch z)⟩
theorem parts_len {S s : List Nat} : (parts S s).length ≤ s.length + 1 := (spl_parts S 0 [] s).2
theorem spl_ne (S : List Nat) (k : Nat) (acc l : List Nat) : TL.spl S k acc l ≠ [] := by
  induction l generalizing k acc with
  | nil => rw [TL.spl_nil]; exact List.cons_ne_nil _ _
  | cons c r ih =>
    cases k with
    | succ k => exact ih k acc
    | zero =>
      cases hp : TL.pre S (c :: r) with
      | true => rw [TL.spl_hit hp]; exact List.cons_ne_nil _ _
      | false => rw [TL.spl_miss hp]; exact ih 0 _
theorem join_spl {S : List Nat} (hS : S ≠ []) : ∀ (n : Nat) (l acc : List Nat), l.length ≤ n → TL.joinL S (TL.spl S 0 acc l) = acc ++ l
  | n, [], acc, _ => by
    rw [TL.spl_nil, List.append_nil]
    rfl
  | 0, c :: r, acc, h => by simp at h
  | n + 1, c :: r, acc, h => by
    have h : r.length ≤ n := by simpa using h
    cases hp : TL.pre S (c :: r) with
    | false =>
      rw [TL.spl_miss hp, join_spl hS n r (acc ++ [c]) h, List.append_assoc]
      rfl
    | true =>
      rw [TL.spl_hit hp, TL.spl_pass]
      have ih := join_spl hS n (r.drop (S.length - 1)) [] (by rw [List.length_drop]; omega)
      have e1 : (c :: r).take S.length = S := eq_of_beq hp
      have e2 : (c :: r).drop S.length = r.drop (S.length - 1) := by
        cases S with
        | nil => exact absurd rfl hS
        | cons x S => rfl
      have e3 : c :: r = S ++ r.drop (S.length - 1) := by
        rw [← e2]
        conv => lhs; rw [← List.take_append_drop S.length (c :: r), e1]
      cases q : TL.spl S 0 [] (r.drop (S.length - 1)) with
      | nil => exact absurd q (spl_ne _ _ _ _)
      | cons p t =>
        show acc ++ (S ++ TL.joinL S (p :: t)) = _
        rw [← q, ih, e3]
        rfl
theorem parts_join {S s : List Nat} (hS : S ≠ []) : TL.joinL S (parts S s) = s := join_spl hS s.length s [] (Nat.le_refl _)
/-- the cut of a text -/
theorem split_ev {S s : List Nat} (hS : S ≠ []) (hb : (S.all (· < 256)) = true) (h : s.length ≤ 900) : B.split.ev (.str s) (.str S) = some (.lst ((parts S s).map .str)) := by
  show (if S ≠ [] ∧ (S.all (· < 256)) = true ∧ s.length + 2 ≤ sizeLine then some (D.lst ((TL.spl S 0 [] s).map .str)) else none) = _
  rw [if_pos ⟨hS, hb, len_le (by omega)⟩]
end K49
end
section
set_option autoImplicit false
/-! P49j: rows. -/
namespace K49
open PySem EV

/-- a text that is read: not too long, plain signs -/
def Txt (s : List Nat) : Prop := s.length ≤ 900 ∧ ∀ c ∈ s, c < 128
theorem Txt.asc {s : List Nat} (h : Txt s) : Asc s := ⟨by have := h.1; omega, h.2⟩
theorem parts_txt {S s : List Nat} (h : Txt s) : ∀ w ∈ parts S s, Txt w := fun w hw => by
  obtain ⟨g1, g2⟩ := (spl_parts S 0 [] s).1 w hw
  exact ⟨Nat.le_trans g2 (by simpa using h.1), fun c hc => h.2 c ((g1 c hc).resolve_left fun z => nomatch z)⟩
theorem eq_dash {s : List Nat} (h : Txt s) : D.eq? (.str s) (.str [45]) = some (decide (s = [45])) := eq_ss h.2 (by decide)
/-- the row of a text, or None -/
def rowD (s : List Nat) : D := if s = [45] then .tup [] else numsD (parts [32] s)
theorem whole_row_ok (n : Nat) {s : List Nat} (h : Txt s) : C (n + 3) 28 [.str s] = .ok (rowD s) (.str s) := by
  have hp : (parts [32] s).length ≤ 1000 := Nat.le_trans parts_len (by have := h.1; omega)
  have hsp := split_ev (S := [32]) (by decide) (by decide) h.1
  simp only [B.ev] at hsp
  have hc := numbers_in_ok n hp (parts_asc h.asc)
  rw [C_succ (di := d28) rfl]
  refine run_of (ρ := [some (.str s)]) rfl ?_
  show evSs (C (n + 2)) wf0 d28.body [some (.str s)] = _
  unfold d28 rowD
  by_cases c1 : s = [45]
  · have q := (eq_dash h).trans (congrArg some (decide_eq_true c1))
    simp only [EV.v_lit, EV.v_var, EV.v_glob, EV.v_fn, EV.v_un, EV.v_bin, EV.v_slL, EV.v_slH, EV.v_slLH, EV.v_tup, EV.v_lst, EV.v_and, EV.v_or, EV.v_not, EV.v_ite, EV.v_chain, EV.v_call, EV.v_callF, EV.v_callIo, EV.v_callT, EV.v_callv, EV.v_nil, EV.v_cons, EV.v_seq, EV.v_enum, EV.v_zip, EV.v_rng1, EV.v_C, s_asg', s_asgO', s_asg2', s_expr', s_ret', s_retN', s_if', s_raise', ss_nil', ss_cons', r_ok, r_exc, r_opt, t_nm, cr_ok, cr_exc, cr_okS, List.getD_cons_zero, List.getD_cons_succ, List.set_cons_zero, List.set_cons_succ, B.pre, B.ev, Cm.ev, U.ev, D.truth, D.toInt, D.items, if_true, if_false, Bool.not_true, Bool.not_false, reduceCtorEq, Option.map_some, Option.bind_some, List.length_cons, List.length_nil, Nat.zero_add, Nat.reduceAdd, Nat.reduceLT, Nat.reduceLeDiff, Bool.and_true, Bool.true_and, decide_true, q]
    rw [if_pos c1]
  · have q := (eq_dash h).trans (congrArg some (decide_eq_false c1))
    simp only [EV.v_lit, EV.v_var, EV.v_glob, EV.v_fn, EV.v_un, EV.v_bin, EV.v_slL, EV.v_slH, EV.v_slLH, EV.v_tup, EV.v_lst, EV.v_and, EV.v_or, EV.v_not, EV.v_ite, EV.v_chain, EV.v_call, EV.v_callF, EV.v_callIo, EV.v_callT, EV.v_callv, EV.v_nil, EV.v_cons, EV.v_seq, EV.v_enum, EV.v_zip, EV.v_rng1, EV.v_C, s_asg', s_asgO', s_asg2', s_expr', s_ret', s_retN', s_if', s_raise', ss_nil', ss_cons', r_ok, r_exc, r_opt, t_nm, cr_ok, cr_exc, cr_okS, List.getD_cons_zero, List.getD_cons_succ, List.set_cons_zero, List.set_cons_succ, B.pre, B.ev, Cm.ev, U.ev, D.truth, D.toInt, D.items, if_true, if_false, Bool.not_true, Bool.not_false, reduceCtorEq, Option.map_some, Option.bind_some, List.length_cons, List.length_nil, Nat.zero_add, Nat.reduceAdd, Nat.reduceLT, Nat.reduceLeDiff, Bool.and_true, Bool.true_and, decide_true, q, hsp, hc]
    rw [if_neg c1]
theorem law_numbers_ok (n : Nat) {s : List Nat} {c : Nat} (hc : c < 128) (h : Txt s) : C (n + 2) 48 [.str s, .str [c]] = .ok (numsD (parts [c] s)) (.str s) := by
  have hp : (parts [c] s).length ≤ 1000 := Nat.le_trans parts_len (by have := h.1; omega)
  have hsp := split_ev (S := [c]) (List.cons_ne_nil _ _) (by simp; omega) h.1
  simp only [B.ev] at hsp
  rw [C_succ (di := d48) rfl]
  refine run_of (ρ := [some (.str s), some (.str [c]), some (.lst ((parts [c] s).map numD)), none]) rfl ?_
  show evSs (C (n + 1)) wf0 d48.body [some (.str s), some (.str [c]), none, none] = _
  have hk : evE (C (n + 1)) (.comp [("part", 3)] (.nm 3) (.seq (.bin .split (.var 0) (.var 1))) (.call false false 47 (.cons (.var 3) .nil))) [some (.str s), some (.str [c]), none, none] = .ok (.lst ((parts [c] s).map numD)) [some (.str s), some (.str [c]), none, none] := by
    refine comp_one (xs := parts [c] s) (e := .str) (g := numD) ?_ (by simp) (len_le hp) fun w hw' => ?_
    · simp only [EV.v_lit, EV.v_var, EV.v_glob, EV.v_fn, EV.v_un, EV.v_bin, EV.v_slL, EV.v_slH, EV.v_slLH, EV.v_tup, EV.v_lst, EV.v_and, EV.v_or, EV.v_not, EV.v_ite, EV.v_chain, EV.v_call, EV.v_callF, EV.v_callIo, EV.v_callT, EV.v_callv, EV.v_nil, EV.v_cons, EV.v_seq, EV.v_enum, EV.v_zip, EV.v_rng1, EV.v_C, s_asg', s_asgO', s_asg2', s_expr', s_ret', s_retN', s_if', s_raise', ss_nil', ss_cons', r_ok, r_exc, r_opt, t_nm, cr_ok, cr_exc, cr_okS, List.getD_cons_zero, List.getD_cons_succ, List.set_cons_zero, List.set_cons_succ, B.pre, B.ev, Cm.ev, U.ev, D.truth, D.toInt, D.items, if_true, if_false, Bool.not_true, Bool.not_false, reduceCtorEq, Option.map_some, Option.bind_some, List.length_cons, List.length_nil, Nat.zero_add, Nat.reduceAdd, Nat.reduceLT, Nat.reduceLeDiff, Bool.and_true, Bool.true_and, decide_true, hsp]
    · simp only [EV.v_lit, EV.v_var, EV.v_glob, EV.v_fn, EV.v_un, EV.v_bin, EV.v_slL, EV.v_slH, EV.v_slLH, EV.v_tup, EV.v_lst, EV.v_and, EV.v_or, EV.v_not, EV.v_ite, EV.v_chain, EV.v_call, EV.v_callF, EV.v_callIo, EV.v_callT, EV.v_callv, EV.v_nil, EV.v_cons, EV.v_seq, EV.v_enum, EV.v_zip, EV.v_rng1, EV.v_C, s_asg', s_asgO', s_asg2', s_expr', s_ret', s_retN', s_if', s_raise', ss_nil', ss_cons', r_ok, r_exc, r_opt, t_nm, cr_ok, cr_exc, cr_okS, List.getD_cons_zero, List.getD_cons_succ, List.set_cons_zero, List.set_cons_succ, B.pre, B.ev, Cm.ev, U.ev, D.truth, D.toInt, D.items, if_true, if_false, Bool.not_true, Bool.not_false, reduceCtorEq, Option.map_some, Option.bind_some, List.length_cons, List.length_nil, Nat.zero_add, Nat.reduceAdd, Nat.reduceLT, Nat.reduceLeDiff, Bool.and_true, Bool.true_and, decide_true, law_number_ok n (parts_asc h.asc w hw')]
  have hin := in_nums (parts [c] s)
  unfold d48 numsD
  cases hb : (parts [c] s).all okNum with
  | true =>
    rw [hb] at hin
    simp only [EV.v_lit, EV.v_var, EV.v_glob, EV.v_fn, EV.v_un, EV.v_bin, EV.v_slL, EV.v_slH, EV.v_slLH, EV.v_tup, EV.v_lst, EV.v_and, EV.v_or, EV.v_not, EV.v_ite, EV.v_chain, EV.v_call, EV.v_callF, EV.v_callIo, EV.v_callT, EV.v_callv, EV.v_nil, EV.v_cons, EV.v_seq, EV.v_enum, EV.v_zip, EV.v_rng1, EV.v_C, s_asg', s_asgO', s_asg2', s_expr', s_ret', s_retN', s_if', s_raise', ss_nil', ss_cons', r_ok, r_exc, r_opt, t_nm, cr_ok, cr_exc, cr_okS, List.getD_cons_zero, List.getD_cons_succ, List.set_cons_zero, List.set_cons_succ, B.pre, B.ev, Cm.ev, U.ev, D.truth, D.toInt, D.items, if_true, if_false, Bool.not_true, Bool.not_false, reduceCtorEq, Option.map_some, Option.bind_some, List.length_cons, List.length_nil, Nat.zero_add, Nat.reduceAdd, Nat.reduceLT, Nat.reduceLeDiff, Bool.and_true, Bool.true_and, decide_true, hk, hin]
    rw [map_numD hb]
  | false =>
    rw [hb] at hin
    simp only [EV.v_lit, EV.v_var, EV.v_glob, EV.v_fn, EV.v_un, EV.v_bin, EV.v_slL, EV.v_slH, EV.v_slLH, EV.v_tup, EV.v_lst, EV.v_and, EV.v_or, EV.v_not, EV.v_ite, EV.v_chain, EV.v_call, EV.v_callF, EV.v_callIo, EV.v_callT, EV.v_callv, EV.v_nil, EV.v_cons, EV.v_seq, EV.v_enum, EV.v_zip, EV.v_rng1, EV.v_C, s_asg', s_asgO', s_asg2', s_expr', s_ret', s_retN', s_if', s_raise', ss_nil', ss_cons', r_ok, r_exc, r_opt, t_nm, cr_ok, cr_exc, cr_okS, List.getD_cons_zero, List.getD_cons_succ, List.set_cons_zero, List.set_cons_succ, B.pre, B.ev, Cm.ev, U.ev, D.truth, D.toInt, D.items, if_true, if_false, Bool.not_true, Bool.not_false, reduceCtorEq, Option.map_some, Option.bind_some, List.length_cons, List.length_nil, Nat.zero_add, Nat.reduceAdd, Nat.reduceLT, Nat.reduceLeDiff, Bool.and_true, Bool.true_and, decide_true, hk, hin]
/-- numbers as they are written, with a sign between -/
theorem nums_text {s : List Nat} {ws : List (List Nat)} {S : List Nat} (hw : ∀ w ∈ ws, okNum w = true) : ((ws.map fun w => D.int (numVal w : Nat)).map fun d => U.str.ev d) = ws.map fun w => some (.str w) := by
  rw [List.map_map]
  exact List.map_congr_left fun w hw' => str_word (hw w hw')
/-- a row written -/
def rowText (ws : List (List Nat)) : List Nat := if ws.isEmpty then [45] else TL.joinL [32] ws
def numT (ws : List (List Nat)) : D := .tup (ws.map fun w => .int (numVal w : Nat))
theorem words_of_ok (n : Nat) {ws : List (List Nat)} (hw : ∀ w ∈ ws, okNum w = true) (hl : (rowText ws).length ≤ 1000) (hn : ws.length ≤ 1000) : C (n + 1) 16 [numT ws] = .ok (.str (rowText ws)) (numT ws) := by
  rw [C_succ (di := d16) rfl]
  refine run_of (ρ := [some (numT ws), none]) rfl ?_
  show evSs (C n) wf0 d16.body [some (numT ws), none] = _
  unfold numT
  cases ws with
  | nil =>
    unfold d16
    simp only [EV.v_lit, EV.v_var, EV.v_glob, EV.v_fn, EV.v_un, EV.v_bin, EV.v_slL, EV.v_slH, EV.v_slLH, EV.v_tup, EV.v_lst, EV.v_and, EV.v_or, EV.v_not, EV.v_ite, EV.v_chain, EV.v_call, EV.v_callF, EV.v_callIo, EV.v_callT, EV.v_callv, EV.v_nil, EV.v_cons, EV.v_seq, EV.v_enum, EV.v_zip, EV.v_rng1, EV.v_C, s_asg', s_asgO', s_asg2', s_expr', s_ret', s_retN', s_if', s_raise', ss_nil', ss_cons', r_ok, r_exc, r_opt, t_nm, cr_ok, cr_exc, cr_okS, List.getD_cons_zero, List.getD_cons_succ, List.set_cons_zero, List.set_cons_succ, B.pre, B.ev, Cm.ev, U.ev, D.truth, D.toInt, D.items, if_true, if_false, Bool.not_true, Bool.not_false, reduceCtorEq, Option.map_some, Option.bind_some, List.length_cons, List.length_nil, Nat.zero_add, Nat.reduceAdd, Nat.reduceLT, Nat.reduceLeDiff, Bool.and_true, Bool.true_and, decide_true, List.map_nil]
    rfl
  | cons w ws =>
    have hl : (TL.joinL [32] (w :: ws)).length ≤ 1000 := hl
    have hk : evE (C n) (.comp [("own", 1)] (.nm 1) (.seq (.var 0)) (.un .str (.var 1))) [some (.tup ((w :: ws).map fun w => .int (numVal w : Nat))), none] = .ok (.lst ((w :: ws).map fun w => .str w)) [some (.tup ((w :: ws).map fun w => .int (numVal w : Nat))), none] := by
      refine comp_one (xs := w :: ws) (e := fun w => .int (numVal w : Nat)) (g := fun w => .str w) ?_ (by simp) (len_le hn) fun q hq => ?_
      · simp only [EV.v_lit, EV.v_var, EV.v_glob, EV.v_fn, EV.v_un, EV.v_bin, EV.v_slL, EV.v_slH, EV.v_slLH, EV.v_tup, EV.v_lst, EV.v_and, EV.v_or, EV.v_not, EV.v_ite, EV.v_chain, EV.v_call, EV.v_callF, EV.v_callIo, EV.v_callT, EV.v_callv, EV.v_nil, EV.v_cons, EV.v_seq, EV.v_enum, EV.v_zip, EV.v_rng1, EV.v_C, s_asg', s_asgO', s_asg2', s_expr', s_ret', s_retN', s_if', s_raise', ss_nil', ss_cons', r_ok, r_exc, r_opt, t_nm, cr_ok, cr_exc, cr_okS, List.getD_cons_zero, List.getD_cons_succ, List.set_cons_zero, List.set_cons_succ, B.pre, B.ev, Cm.ev, U.ev, D.truth, D.toInt, D.items, if_true, if_false, Bool.not_true, Bool.not_false, reduceCtorEq, Option.map_some, Option.bind_some, List.length_cons, List.length_nil, Nat.zero_add, Nat.reduceAdd, Nat.reduceLT, Nat.reduceLeDiff, Bool.and_true, Bool.true_and, decide_true]
      · have hs := str_word (hw q hq)
        simp only [U.ev] at hs
        simp only [EV.v_lit, EV.v_var, EV.v_glob, EV.v_fn, EV.v_un, EV.v_bin, EV.v_slL, EV.v_slH, EV.v_slLH, EV.v_tup, EV.v_lst, EV.v_and, EV.v_or, EV.v_not, EV.v_ite, EV.v_chain, EV.v_call, EV.v_callF, EV.v_callIo, EV.v_callT, EV.v_callv, EV.v_nil, EV.v_cons, EV.v_seq, EV.v_enum, EV.v_zip, EV.v_rng1, EV.v_C, s_asg', s_asgO', s_asg2', s_expr', s_ret', s_retN', s_if', s_raise', ss_nil', ss_cons', r_ok, r_exc, r_opt, t_nm, cr_ok, cr_exc, cr_okS, List.getD_cons_zero, List.getD_cons_succ, List.set_cons_zero, List.set_cons_succ, B.pre, B.ev, Cm.ev, U.ev, D.truth, D.toInt, D.items, if_true, if_false, Bool.not_true, Bool.not_false, reduceCtorEq, Option.map_some, Option.bind_some, List.length_cons, List.length_nil, Nat.zero_add, Nat.reduceAdd, Nat.reduceLT, Nat.reduceLeDiff, Bool.and_true, Bool.true_and, decide_true, hs]
    have hs : D.strs ((w :: ws).map fun q => .str q) = some ((w :: ws).map id) := strs_map id (w :: ws)
    rw [List.map_id] at hs
    have j1 : ((w :: ws).map (·.length)).sum + (ws.length + 1) * 1 ≤ 16777216 := by
      have := join_sum [32] (w :: ws)
      simp only [List.length_cons, List.length_nil] at this ⊢
      omega
    have i1 : decide ((0 : Int) < ((((w :: ws).map fun w => D.int (numVal w : Nat)).length : Nat) : Int)) = true := decide_eq_true (by simp only [List.length_map, List.length_cons]; omega)
    unfold d16
    simp only [EV.v_lit, EV.v_var, EV.v_glob, EV.v_fn, EV.v_un, EV.v_bin, EV.v_slL, EV.v_slH, EV.v_slLH, EV.v_tup, EV.v_lst, EV.v_and, EV.v_or, EV.v_not, EV.v_ite, EV.v_chain, EV.v_call, EV.v_callF, EV.v_callIo, EV.v_callT, EV.v_callv, EV.v_nil, EV.v_cons, EV.v_seq, EV.v_enum, EV.v_zip, EV.v_rng1, EV.v_C, s_asg', s_asgO', s_asg2', s_expr', s_ret', s_retN', s_if', s_raise', ss_nil', ss_cons', r_ok, r_exc, r_opt, t_nm, cr_ok, cr_exc, cr_okS, List.getD_cons_zero, List.getD_cons_succ, List.set_cons_zero, List.set_cons_succ, B.pre, B.ev, Cm.ev, U.ev, D.truth, D.toInt, D.items, if_true, if_false, Bool.not_true, Bool.not_false, reduceCtorEq, Option.map_some, Option.bind_some, List.length_cons, List.length_nil, Nat.zero_add, Nat.reduceAdd, Nat.reduceLT, Nat.reduceLeDiff, Bool.and_true, Bool.true_and, decide_true, hk, hs, if_pos j1, i1]
    rfl
theorem num_tu (ws : List (List Nat)) (hn : ws.length ≤ 1000) : Tu 1 (numT ws) := .tup (by rw [List.length_map]; exact hn) fun d hd => by
  obtain ⟨w, _, rfl⟩ := List.mem_map.mp hd
  exact .int _ _
theorem row_text_ok (n : Nat) {ws : List (List Nat)} (hw : ∀ w ∈ ws, okNum w = true) (hl : (rowText ws).length ≤ 1000) (hn : ws.length ≤ 1000) : C (n + 3) 17 [numT ws] = .ok (.str (rowText ws)) (numT ws) := by
  rw [C_succ (di := d17) rfl]
  refine run_of (ρ := [some (numT ws), some (numT ws), none]) rfl ?_
  show evSs (C (n + 2)) wf0 d17.body [some (numT ws), none, none] = _
  have hk : evE (C (n + 2)) (.comp [("far", 2)] (.nm 2) (.seq (.var 1)) (.call false false 1 (.cons (.var 2) (.cons (.lit (.int 0)) .nil)))) [some (numT ws), some (numT ws), none] = .ok (.lst (ws.map fun _ => .bl true)) [some (numT ws), some (numT ws), none] := by
    refine comp_one (xs := ws) (e := fun w => .int (numVal w : Nat)) (g := fun _ => .bl true) ?_ (by simp) (len_le hn) fun q hq => ?_
    · simp only [EV.v_lit, EV.v_var, EV.v_glob, EV.v_fn, EV.v_un, EV.v_bin, EV.v_slL, EV.v_slH, EV.v_slLH, EV.v_tup, EV.v_lst, EV.v_and, EV.v_or, EV.v_not, EV.v_ite, EV.v_chain, EV.v_call, EV.v_callF, EV.v_callIo, EV.v_callT, EV.v_callv, EV.v_nil, EV.v_cons, EV.v_seq, EV.v_enum, EV.v_zip, EV.v_rng1, EV.v_C, s_asg', s_asgO', s_asg2', s_expr', s_ret', s_retN', s_if', s_raise', ss_nil', ss_cons', r_ok, r_exc, r_opt, t_nm, cr_ok, cr_exc, cr_okS, List.getD_cons_zero, List.getD_cons_succ, List.set_cons_zero, List.set_cons_succ, B.pre, B.ev, Cm.ev, U.ev, D.truth, D.toInt, D.items, if_true, if_false, Bool.not_true, Bool.not_false, reduceCtorEq, Option.map_some, Option.bind_some, List.length_cons, List.length_nil, Nat.zero_add, Nat.reduceAdd, Nat.reduceLT, Nat.reduceLeDiff, Bool.and_true, Bool.true_and, decide_true, numT]
    · have : decide ((0 : Int) ≤ ((numVal q : Nat) : Int)) = true := decide_eq_true (by omega)
      simp only [EV.v_lit, EV.v_var, EV.v_glob, EV.v_fn, EV.v_un, EV.v_bin, EV.v_slL, EV.v_slH, EV.v_slLH, EV.v_tup, EV.v_lst, EV.v_and, EV.v_or, EV.v_not, EV.v_ite, EV.v_chain, EV.v_call, EV.v_callF, EV.v_callIo, EV.v_callT, EV.v_callv, EV.v_nil, EV.v_cons, EV.v_seq, EV.v_enum, EV.v_zip, EV.v_rng1, EV.v_C, s_asg', s_asgO', s_asg2', s_expr', s_ret', s_retN', s_if', s_raise', ss_nil', ss_cons', r_ok, r_exc, r_opt, t_nm, cr_ok, cr_exc, cr_okS, List.getD_cons_zero, List.getD_cons_succ, List.set_cons_zero, List.set_cons_succ, B.pre, B.ev, Cm.ev, U.ev, D.truth, D.toInt, D.items, if_true, if_false, Bool.not_true, Bool.not_false, reduceCtorEq, Option.map_some, Option.bind_some, List.length_cons, List.length_nil, Nat.zero_add, Nat.reduceAdd, Nat.reduceLT, Nat.reduceLeDiff, Bool.and_true, Bool.true_and, decide_true, is_from_ok n, this]
  have hb : D.bls (ws.map fun _ => .bl true) = some (ws.map fun _ => true) := bls_map (fun _ => true) ws
  have ht : (ws.map fun _ => true).all id = true := all_true fun _ _ => rfl
  have ty : (numT ws).isa (fun t => t == "tuple") = some (.bl true) := rfl
  unfold d17
  simp only [EV.v_lit, EV.v_var, EV.v_glob, EV.v_fn, EV.v_un, EV.v_bin, EV.v_slL, EV.v_slH, EV.v_slLH, EV.v_tup, EV.v_lst, EV.v_and, EV.v_or, EV.v_not, EV.v_ite, EV.v_chain, EV.v_call, EV.v_callF, EV.v_callIo, EV.v_callT, EV.v_callv, EV.v_nil, EV.v_cons, EV.v_seq, EV.v_enum, EV.v_zip, EV.v_rng1, EV.v_C, s_asg', s_asgO', s_asg2', s_expr', s_ret', s_retN', s_if', s_raise', ss_nil', ss_cons', r_ok, r_exc, r_opt, t_nm, cr_ok, cr_exc, cr_okS, List.getD_cons_zero, List.getD_cons_succ, List.set_cons_zero, List.set_cons_succ, B.pre, B.ev, Cm.ev, U.ev, D.truth, D.toInt, D.items, if_true, if_false, Bool.not_true, Bool.not_false, reduceCtorEq, Option.map_some, Option.bind_some, List.length_cons, List.length_nil, Nat.zero_add, Nat.reduceAdd, Nat.reduceLT, Nat.reduceLeDiff, Bool.and_true, Bool.true_and, decide_true, show C (n + 2) 2 [numT ws] = _ from tuple_of_ok (num_tu ws hn) n, hk, hb, ht, ty, sure_ok, words_of_ok (n + 1) hw hl hn]
end K49
end
section
set_option autoImplicit false
/-! P49k: steps. -/
namespace K49
open PySem EV

structure Stp where
  pw : List (List Nat)
  nm : List Nat
def Stp.D (s : Stp) : EV.D := .tup [numT s.pw, .int (numVal s.nm : Nat)]
def placeText (pw : List (List Nat)) : List Nat := if pw.isEmpty then [45] else TL.joinL [46] pw
def Stp.text (s : Stp) : List Nat := placeText s.pw ++ [58] ++ s.nm
def stepOf (w : List Nat) : Option Stp := match parts [58] w with
  | [p0, p1] => if okNum p1 = true then (if p0 = [45] then some ⟨[], p1⟩ else if (parts [46] p0).all okNum = true then some ⟨parts [46] p0, p1⟩ else none) else none
  | _ => none
def optD (o : Option Stp) : EV.D := match o with
  | some s => s.D
  | none => .non
theorem whole_step_ok (n : Nat) {w : List Nat} (h : Txt w) : C (n + 3) 29 [.str w] = .ok (optD (stepOf w)) (.str w) := by
  have hsp := split_ev (S := [58]) (by decide) (by decide) h.1
  simp only [B.ev] at hsp
  have hpt := parts_txt (S := [58]) h
  rw [C_succ (di := d29) rfl]
  show runDef (C (n + 2)) wf0 d29 [.str w] = _
  unfold stepOf
  generalize hps : parts [58] w = ps at hsp hpt
  have two : ps.length = 2 → ∃ p0 p1, ps = [p0, p1] := fun hl => by
    match ps, hl with
    | [p0, p1], _ => exact ⟨p0, p1, rfl⟩
  by_cases c1 : ps.length = 2
  · obtain ⟨p0, p1, rfl⟩ := two c1
    have t0 := hpt p0 (by simp)
    have t1 := hpt p1 (by simp)
    have hsp2 := split_ev (S := [46]) (by decide) (by decide) t0.1
    simp only [B.ev] at hsp2
    have hc := numbers_in_ok n (Nat.le_trans parts_len (by have := t0.1; omega)) (parts_asc (S := [46]) t0.asc)
    have hn := number_in_ok (n + 1) t1.asc
    have key : ∀ pl : EV.D, (p0 = [45] → pl = .tup []) → (p0 ≠ [45] → pl = numsD (parts [46] p0)) → runDef (C (n + 2)) wf0 d29 [.str w] = .ok (if isNon pl || isNon (numD p1) then .non else .tup [pl, numD p1]) (.str w) := by
      intro pl h1 h2
      refine run_of (ρ := [some (.str w), some (.lst [.str p0, .str p1]), some pl, some (numD p1)]) rfl ?_
      show evSs (C (n + 2)) wf0 d29.body [some (.str w), none, none, none] = _
      unfold d29
      have n1 : U.notNone.ev pl = some (.bl (!isNon pl)) := by cases pl <;> rfl
      have n2 : U.notNone.ev (numD p1) = some (.bl (!isNon (numD p1))) := by unfold numD; split <;> rfl
      have e22 : (((2 : Nat) : Int) == 2) = true := rfl
      have at2 : L2.atI [D.str p0, D.str p1] 1 = some (.str p1) := at1
      have evU : ∀ (c : Nat → List D → CR) (ρ : EV.Env) (a : E), evE c (.un .notNone a) ρ = (evE c a ρ).bind fun d ρ => R.opt ρ (U.notNone.ev d) := fun _ _ _ => rfl
      have last : evS (C (n + 2)) wf0 (.ret (.ite (.and_ (.un .notNone (.var 2)) (.un .notNone (.var 3))) (.tup (.cons (.var 2) (.cons (.var 3) .nil))) (.lit .non))) [some (.str w), some (.lst [.str p0, .str p1]), some pl, some (numD p1)] = .ok (.ret (if isNon pl || isNon (numD p1) then .non else .tup [pl, numD p1])) [some (.str w), some (.lst [.str p0, .str p1]), some pl, some (numD p1)] := by
        rw [s_ret', EV.v_ite, EV.v_and, evU]
        simp only [EV.v_var, List.getD_cons_zero, List.getD_cons_succ, r_opt, r_ok, n1, D.truth]
        cases isNon pl with
        | true => rfl
        | false =>
          simp only [Bool.not_false, evU, EV.v_var, List.getD_cons_zero, List.getD_cons_succ, r_opt, r_ok, n2]
          cases isNon (numD p1) <;> rfl
      by_cases cd : p0 = [45]
      · have q := (eq_dash t0).trans (congrArg some (decide_eq_true cd))
        have hpl := h1 cd
        subst hpl
        simp only [EV.v_lit, EV.v_var, EV.v_glob, EV.v_fn, EV.v_un, EV.v_bin, EV.v_slL, EV.v_slH, EV.v_slLH, EV.v_tup, EV.v_lst, EV.v_and, EV.v_or, EV.v_not, EV.v_ite, EV.v_chain, EV.v_call, EV.v_callF, EV.v_callIo, EV.v_callT, EV.v_callv, EV.v_nil, EV.v_cons, EV.v_seq, EV.v_enum, EV.v_zip, EV.v_rng1, EV.v_C, s_asg', s_asgO', s_asg2', s_expr', s_retN', s_if', s_raise', ss_nil', ss_cons', r_ok, r_exc, r_opt, t_nm, cr_ok, cr_exc, cr_okS, List.getD_cons_zero, List.getD_cons_succ, List.set_cons_zero, List.set_cons_succ, B.pre, B.ev, Cm.ev, U.ev, D.truth, D.toInt, D.items, if_true, if_false, Bool.not_true, Bool.not_false, reduceCtorEq, Option.map_some, Option.bind_some, List.length_cons, List.length_nil, Nat.zero_add, Nat.reduceAdd, Nat.reduceLT, Nat.reduceLeDiff, Bool.and_true, Bool.true_and, decide_true, hsp, eq_ii, List.map_cons, List.map_nil, at0, at1, q, hn, last, e22]
      · have q := (eq_dash t0).trans (congrArg some (decide_eq_false cd))
        have hpl := h2 cd
        subst hpl
        simp only [EV.v_lit, EV.v_var, EV.v_glob, EV.v_fn, EV.v_un, EV.v_bin, EV.v_slL, EV.v_slH, EV.v_slLH, EV.v_tup, EV.v_lst, EV.v_and, EV.v_or, EV.v_not, EV.v_ite, EV.v_chain, EV.v_call, EV.v_callF, EV.v_callIo, EV.v_callT, EV.v_callv, EV.v_nil, EV.v_cons, EV.v_seq, EV.v_enum, EV.v_zip, EV.v_rng1, EV.v_C, s_asg', s_asgO', s_asg2', s_expr', s_retN', s_if', s_raise', ss_nil', ss_cons', r_ok, r_exc, r_opt, t_nm, cr_ok, cr_exc, cr_okS, List.getD_cons_zero, List.getD_cons_succ, List.set_cons_zero, List.set_cons_succ, B.pre, B.ev, Cm.ev, U.ev, D.truth, D.toInt, D.items, if_true, if_false, Bool.not_true, Bool.not_false, reduceCtorEq, Option.map_some, Option.bind_some, List.length_cons, List.length_nil, Nat.zero_add, Nat.reduceAdd, Nat.reduceLT, Nat.reduceLeDiff, Bool.and_true, Bool.true_and, decide_true, hsp, hsp2, eq_ii, List.map_cons, List.map_nil, at0, at1, q, hc, hn, last, e22]
    have ni : isNon (numD p1) = !okNum p1 := by unfold numD; cases okNum p1 <;> rfl
    show _ = CR.ok (optD (if okNum p1 = true then (if p0 = [45] then some ⟨[], p1⟩ else if (parts [46] p0).all okNum = true then some ⟨parts [46] p0, p1⟩ else none) else none)) _
    by_cases cd : p0 = [45]
    · rw [key (.tup []) (fun _ => rfl) (fun z => absurd cd z), ni]
      cases ho : okNum p1 with
      | false => rfl
      | true =>
        rw [if_pos rfl, if_pos cd]
        show CR.ok (D.tup [.tup [], numD p1]) _ = _
        unfold numD
        rw [if_pos ho]
        rfl
    · rw [key (numsD (parts [46] p0)) (fun z => absurd z cd) (fun _ => rfl), ni]
      have nn : isNon (numsD (parts [46] p0)) = !(parts [46] p0).all okNum := by unfold numsD; cases (parts [46] p0).all okNum <;> rfl
      rw [nn]
      cases ho : okNum p1 with
      | false =>
        rw [Bool.not_false, Bool.or_true]
        rfl
      | true =>
        rw [if_pos rfl, if_neg cd]
        cases ha : (parts [46] p0).all okNum with
        | false => rfl
        | true =>
          show CR.ok (D.tup [numsD (parts [46] p0), numD p1]) _ = _
          unfold numD numsD
          rw [if_pos ho, if_pos ha]
          rfl
  · have e22 : ((((ps.map D.str).length : Nat) : Int) == 2) = false := by
      rw [beq_eq_false_iff_ne, List.length_map]
      omega
    have ho : (match ps with
      | [p0, p1] => if okNum p1 = true then (if p0 = [45] then some (⟨[], p1⟩ : Stp) else if (parts [46] p0).all okNum = true then some ⟨parts [46] p0, p1⟩ else none) else none
      | _ => none) = none := by
      split
      · exact absurd rfl c1
      · rfl
    rw [ho]
    refine run_of (ρ := [some (.str w), some (.lst (ps.map .str)), none, none]) rfl ?_
    show evSs (C (n + 2)) wf0 d29.body [some (.str w), none, none, none] = _
    unfold d29
    simp only [EV.v_lit, EV.v_var, EV.v_glob, EV.v_fn, EV.v_un, EV.v_bin, EV.v_slL, EV.v_slH, EV.v_slLH, EV.v_tup, EV.v_lst, EV.v_and, EV.v_or, EV.v_not, EV.v_ite, EV.v_chain, EV.v_call, EV.v_callF, EV.v_callIo, EV.v_callT, EV.v_callv, EV.v_nil, EV.v_cons, EV.v_seq, EV.v_enum, EV.v_zip, EV.v_rng1, EV.v_C, s_asg', s_asgO', s_asg2', s_expr', s_ret', s_retN', s_if', s_raise', ss_nil', ss_cons', r_ok, r_exc, r_opt, t_nm, cr_ok, cr_exc, cr_okS, List.getD_cons_zero, List.getD_cons_succ, List.set_cons_zero, List.set_cons_succ, B.pre, B.ev, Cm.ev, U.ev, D.truth, D.toInt, D.items, if_true, if_false, Bool.not_true, Bool.not_false, reduceCtorEq, Option.map_some, Option.bind_some, List.length_cons, List.length_nil, Nat.zero_add, Nat.reduceAdd, Nat.reduceLT, Nat.reduceLeDiff, Bool.and_true, Bool.true_and, decide_true, hsp, eq_ii, e22]
    rfl
end K49
end
section
set_option autoImplicit false
/-! P49l: the law's own steps. -/
namespace K49
open PySem EV
theorem law_step_ok (n : Nat) {w : List Nat} (h : Txt w) : C (n + 3) 49 [.str w] = .ok (optD (stepOf w)) (.str w) := by
  have hsp := split_ev (S := [58]) (by decide) (by decide) h.1
  simp only [B.ev] at hsp
  have hpt := parts_txt (S := [58]) h
  rw [C_succ (di := d49) rfl]
  show runDef (C (n + 2)) wf0 d49 [.str w] = _
  unfold stepOf
  generalize hps : parts [58] w = ps at hsp hpt
  have two : ps.length = 2 → ∃ p0 p1, ps = [p0, p1] := fun hl => by
    match ps, hl with
    | [p0, p1], _ => exact ⟨p0, p1, rfl⟩
  by_cases c1 : ps.length = 2
  · obtain ⟨p0, p1, rfl⟩ := two c1
    have t0 := hpt p0 (by simp)
    have t1 := hpt p1 (by simp)
    have hc := law_numbers_ok n (c := 46) (by decide) t0
    have hn := law_number_ok (n + 1) t1.asc
    have key : ∀ pl : EV.D, (p0 = [45] → pl = .tup []) → (p0 ≠ [45] → pl = numsD (parts [46] p0)) → runDef (C (n + 2)) wf0 d49 [.str w] = .ok (if isNon pl || isNon (numD p1) then .non else .tup [pl, numD p1]) (.str w) := by
      intro pl h1 h2
      refine run_of (ρ := [some (.str w), some (.lst [.str p0, .str p1]), some pl, some (numD p1)]) rfl ?_
      show evSs (C (n + 2)) wf0 d49.body [some (.str w), none, none, none] = _
      unfold d49
      have n1 : U.isNone.ev pl = some (.bl (isNon pl)) := by cases pl <;> rfl
      have n2 : U.isNone.ev (numD p1) = some (.bl (isNon (numD p1))) := by unfold numD; split <;> rfl
      have e22 : (((2 : Nat) : Int) == 2) = true := rfl
      have at2 : L2.atI [D.str p0, D.str p1] 1 = some (.str p1) := at1
      have evU : ∀ (c : Nat → List D → CR) (ρ : EV.Env) (a : E), evE c (.un .isNone a) ρ = (evE c a ρ).bind fun d ρ => R.opt ρ (U.isNone.ev d) := fun _ _ _ => rfl
      have last : evS (C (n + 2)) wf0 (.ret (.ite (.or_ (.un .isNone (.var 2)) (.un .isNone (.var 3))) (.lit .non) (.tup (.cons (.var 2) (.cons (.var 3) .nil))))) [some (.str w), some (.lst [.str p0, .str p1]), some pl, some (numD p1)] = .ok (.ret (if isNon pl || isNon (numD p1) then .non else .tup [pl, numD p1])) [some (.str w), some (.lst [.str p0, .str p1]), some pl, some (numD p1)] := by
        rw [s_ret', EV.v_ite, EV.v_or, evU]
        simp only [EV.v_var, List.getD_cons_zero, List.getD_cons_succ, r_opt, r_ok, n1, D.truth]
        cases isNon pl with
        | true => rfl
        | false =>
          simp only [evU, EV.v_var, List.getD_cons_zero, List.getD_cons_succ, r_opt, r_ok, n2]
          cases isNon (numD p1) <;> rfl
      by_cases cd : p0 = [45]
      · have q := (eq_dash t0).trans (congrArg some (decide_eq_true cd))
        have hpl := h1 cd
        subst hpl
        simp only [EV.v_lit, EV.v_var, EV.v_glob, EV.v_fn, EV.v_un, EV.v_bin, EV.v_slL, EV.v_slH, EV.v_slLH, EV.v_tup, EV.v_lst, EV.v_and, EV.v_or, EV.v_not, EV.v_ite, EV.v_chain, EV.v_call, EV.v_callF, EV.v_callIo, EV.v_callT, EV.v_callv, EV.v_nil, EV.v_cons, EV.v_seq, EV.v_enum, EV.v_zip, EV.v_rng1, EV.v_C, s_asg', s_asgO', s_asg2', s_expr', s_retN', s_if', s_raise', ss_nil', ss_cons', r_ok, r_exc, r_opt, t_nm, cr_ok, cr_exc, cr_okS, List.getD_cons_zero, List.getD_cons_succ, List.set_cons_zero, List.set_cons_succ, B.pre, B.ev, Cm.ev, U.ev, D.truth, D.toInt, D.items, if_true, if_false, Bool.not_true, Bool.not_false, reduceCtorEq, Option.map_some, Option.bind_some, List.length_cons, List.length_nil, Nat.zero_add, Nat.reduceAdd, Nat.reduceLT, Nat.reduceLeDiff, Bool.and_true, Bool.true_and, decide_true, hsp, eq_ii, List.map_cons, List.map_nil, at0, at1, q, hn, last, e22]
      · have q := (eq_dash t0).trans (congrArg some (decide_eq_false cd))
        have hpl := h2 cd
        subst hpl
        simp only [EV.v_lit, EV.v_var, EV.v_glob, EV.v_fn, EV.v_un, EV.v_bin, EV.v_slL, EV.v_slH, EV.v_slLH, EV.v_tup, EV.v_lst, EV.v_and, EV.v_or, EV.v_not, EV.v_ite, EV.v_chain, EV.v_call, EV.v_callF, EV.v_callIo, EV.v_callT, EV.v_callv, EV.v_nil, EV.v_cons, EV.v_seq, EV.v_enum, EV.v_zip, EV.v_rng1, EV.v_C, s_asg', s_asgO', s_asg2', s_expr', s_retN', s_if', s_raise', ss_nil', ss_cons', r_ok, r_exc, r_opt, t_nm, cr_ok, cr_exc, cr_okS, List.getD_cons_zero, List.getD_cons_succ, List.set_cons_zero, List.set_cons_succ, B.pre, B.ev, Cm.ev, U.ev, D.truth, D.toInt, D.items, if_true, if_false, Bool.not_true, Bool.not_false, reduceCtorEq, Option.map_some, Option.bind_some, List.length_cons, List.length_nil, Nat.zero_add, Nat.reduceAdd, Nat.reduceLT, Nat.reduceLeDiff, Bool.and_true, Bool.true_and, decide_true, hsp, eq_ii, List.map_cons, List.map_nil, at0, at1, q, hc, hn, last, e22]
    have ni : isNon (numD p1) = !okNum p1 := by unfold numD; cases okNum p1 <;> rfl
    show _ = CR.ok (optD (if okNum p1 = true then (if p0 = [45] then some ⟨[], p1⟩ else if (parts [46] p0).all okNum = true then some ⟨parts [46] p0, p1⟩ else none) else none)) _
    by_cases cd : p0 = [45]
    · rw [key (.tup []) (fun _ => rfl) (fun z => absurd cd z), ni]
      cases ho : okNum p1 with
      | false => rfl
      | true =>
        rw [if_pos rfl, if_pos cd]
        show CR.ok (D.tup [.tup [], numD p1]) _ = _
        unfold numD
        rw [if_pos ho]
        rfl
    · rw [key (numsD (parts [46] p0)) (fun z => absurd z cd) (fun _ => rfl), ni]
      have nn : isNon (numsD (parts [46] p0)) = !(parts [46] p0).all okNum := by unfold numsD; cases (parts [46] p0).all okNum <;> rfl
      rw [nn]
      cases ho : okNum p1 with
      | false =>
        rw [Bool.not_false, Bool.or_true]
        rfl
      | true =>
        rw [if_pos rfl, if_neg cd]
        cases ha : (parts [46] p0).all okNum with
        | false => rfl
        | true =>
          show CR.ok (D.tup [numsD (parts [46] p0), numD p1]) _ = _
          unfold numD numsD
          rw [if_pos ho, if_pos ha]
          rfl
  · have e22 : ((((ps.map D.str).length : Nat) : Int) == 2) = false := by
      rw [beq_eq_false_iff_ne, List.length_map]
      omega
    split
    · exact absurd rfl c1
    refine run_of (ρ := [some (.str w), some (.lst (ps.map .str)), none, none]) rfl ?_
    show evSs (C (n + 2)) wf0 d49.body [some (.str w), none, none, none] = _
    unfold d49
    simp only [EV.v_lit, EV.v_var, EV.v_glob, EV.v_fn, EV.v_un, EV.v_bin, EV.v_slL, EV.v_slH, EV.v_slLH, EV.v_tup, EV.v_lst, EV.v_and, EV.v_or, EV.v_not, EV.v_ite, EV.v_chain, EV.v_call, EV.v_callF, EV.v_callIo, EV.v_callT, EV.v_callv, EV.v_nil, EV.v_cons, EV.v_seq, EV.v_enum, EV.v_zip, EV.v_rng1, EV.v_C, s_asg', s_asgO', s_asg2', s_expr', s_ret', s_retN', s_if', s_raise', ss_nil', ss_cons', r_ok, r_exc, r_opt, t_nm, cr_ok, cr_exc, cr_okS, List.getD_cons_zero, List.getD_cons_succ, List.set_cons_zero, List.set_cons_succ, B.pre, B.ev, Cm.ev, U.ev, D.truth, D.toInt, D.items, if_true, if_false, Bool.not_true, Bool.not_false, reduceCtorEq, Option.map_some, Option.bind_some, List.length_cons, List.length_nil, Nat.zero_add, Nat.reduceAdd, Nat.reduceLT, Nat.reduceLeDiff, Bool.and_true, Bool.true_and, decide_true, hsp, eq_ii, e22]
    rfl
end K49
end
section
set_option autoImplicit false
/-! P49m: many, or none. -/
namespace K49
open PySem EV

def oD {α : Type} (f : α → EV.D) : Option α → EV.D
  | some a => f a
  | none => .non
theorem optD_oD (o : Option Stp) : optD o = oD Stp.D o := by cases o <;> rfl
theorem any_none {α : Type} {f : α → EV.D} (hf : ∀ a, (f a).eqv .non = false) : ∀ os : List (Option α), ((os.map (oD f)).any fun y => y.eqv .non) = !os.all Option.isSome
  | [] => rfl
  | o :: os => by
    rw [List.map_cons, List.any_cons, List.all_cons, Bool.not_and, any_none hf os]
    cases o with
    | none => rfl
    | some a =>
      show ((f a).eqv .non || _) = _
      rw [hf a]
      rfl
theorem all_some {α : Type} : ∀ {os : List (Option α)}, os.all Option.isSome = true → ∃ as : List α, os = as.map some
  | [], _ => ⟨[], rfl⟩
  | none :: os, h => by simp at h
  | some a :: os, h => by
    obtain ⟨as, rfl⟩ := all_some (os := os) (by simpa using h)
    exact ⟨a :: as, rfl⟩
theorem map_oD {α : Type} (f : α → EV.D) (as : List α) : (as.map some).map (oD f) = as.map f := by
  rw [List.map_map]
  rfl
/-- all of them, or None -/
def manyD {α : Type} (f : α → EV.D) (os : List (Option α)) : EV.D := if os.all Option.isSome = true then .tup (os.map (oD f)) else .non
theorem in_many {α : Type} {f : α → EV.D} {k : Nat} (hf : ∀ a, (f a).eqv .non = false) {os : List (Option α)} (hg : ∀ a, some a ∈ os → Gd k (f a)) (hk : k < 64) : D.in? .non (os.map (oD f)) = some (!os.all Option.isSome) := by
  rw [in_some (k := k) (gd_non k) (fun d hd => ?_) hk, any_none hf]
  obtain ⟨o, ho, rfl⟩ := List.mem_map.mp hd
  cases o with
  | none => exact gd_non k
  | some a => exact hg a ho
theorem gd_stp (s : Stp) : Gd 2 s.D := gd_tup fun d hd => by
  rcases List.mem_cons.mp hd with rfl | hd
  · exact gd_tup (k := 0) fun d hd => by
      obtain ⟨w, _, rfl⟩ := List.mem_map.mp hd
      exact gd_int 0 _
  · rcases List.mem_cons.mp hd with rfl | hd
    · exact gd_int 1 _
    · cases hd
theorem stp_non (s : Stp) : s.D.eqv .non = false := rfl

/-! ### runs -/
def runOf (s : List Nat) : EV.D := if s = [45] then .tup [] else manyD Stp.D ((parts [32] s).map stepOf)
theorem whole_run_ok (n : Nat) {s : List Nat} (h : Txt s) : C (n + 4) 30 [.str s] = .ok (runOf s) (.str s) := by
  have hp : (parts [32] s).length ≤ 1000 := Nat.le_trans parts_len (by have := h.1; omega)
  have hsp := split_ev (S := [32]) (by decide) (by decide) h.1
  simp only [B.ev] at hsp
  rw [C_succ (di := d30) rfl]
  unfold runOf
  by_cases c1 : s = [45]
  · have q := (eq_dash h).trans (congrArg some (decide_eq_true c1))
    have hin : D.in? .non [] = some false := rfl
    rw [if_pos c1]
    refine run_of (ρ := [some (.str s), some (.tup []), none]) rfl ?_
    show evSs (C (n + 3)) wf0 d30.body [some (.str s), none, none] = _
    unfold d30
    simp only [EV.v_lit, EV.v_var, EV.v_glob, EV.v_fn, EV.v_un, EV.v_bin, EV.v_slL, EV.v_slH, EV.v_slLH, EV.v_tup, EV.v_lst, EV.v_and, EV.v_or, EV.v_not, EV.v_ite, EV.v_chain, EV.v_call, EV.v_callF, EV.v_callIo, EV.v_callT, EV.v_callv, EV.v_nil, EV.v_cons, EV.v_seq, EV.v_enum, EV.v_zip, EV.v_rng1, EV.v_C, s_asg', s_asgO', s_asg2', s_expr', s_ret', s_retN', s_if', s_raise', ss_nil', ss_cons', r_ok, r_exc, r_opt, t_nm, cr_ok, cr_exc, cr_okS, List.getD_cons_zero, List.getD_cons_succ, List.set_cons_zero, List.set_cons_succ, B.pre, B.ev, Cm.ev, U.ev, D.truth, D.toInt, D.items, if_true, if_false, Bool.not_true, Bool.not_false, reduceCtorEq, Option.map_some, Option.bind_some, List.length_cons, List.length_nil, Nat.zero_add, Nat.reduceAdd, Nat.reduceLT, Nat.reduceLeDiff, Bool.and_true, Bool.true_and, decide_true, q, hin]
  · have q := (eq_dash h).trans (congrArg some (decide_eq_false c1))
    have hk : evE (C (n + 3)) (.comp [("word", 2)] (.nm 2) (.seq (.bin .split (.var 0) (.glob "BLANK" (.str [32])))) (.call false false 29 (.cons (.var 2) .nil))) [some (.str s), none, none] = .ok (.lst ((parts [32] s).map fun w => optD (stepOf w))) [some (.str s), none, none] := by
      refine comp_one (xs := parts [32] s) (e := .str) (g := fun w => optD (stepOf w)) ?_ (by simp) (len_le hp) fun w hw' => ?_
      · simp only [EV.v_lit, EV.v_var, EV.v_glob, EV.v_fn, EV.v_un, EV.v_bin, EV.v_slL, EV.v_slH, EV.v_slLH, EV.v_tup, EV.v_lst, EV.v_and, EV.v_or, EV.v_not, EV.v_ite, EV.v_chain, EV.v_call, EV.v_callF, EV.v_callIo, EV.v_callT, EV.v_callv, EV.v_nil, EV.v_cons, EV.v_seq, EV.v_enum, EV.v_zip, EV.v_rng1, EV.v_C, s_asg', s_asgO', s_asg2', s_expr', s_ret', s_retN', s_if', s_raise', ss_nil', ss_cons', r_ok, r_exc, r_opt, t_nm, cr_ok, cr_exc, cr_okS, List.getD_cons_zero, List.getD_cons_succ, List.set_cons_zero, List.set_cons_succ, B.pre, B.ev, Cm.ev, U.ev, D.truth, D.toInt, D.items, if_true, if_false, Bool.not_true, Bool.not_false, reduceCtorEq, Option.map_some, Option.bind_some, List.length_cons, List.length_nil, Nat.zero_add, Nat.reduceAdd, Nat.reduceLT, Nat.reduceLeDiff, Bool.and_true, Bool.true_and, decide_true, hsp]
      · simp only [EV.v_lit, EV.v_var, EV.v_glob, EV.v_fn, EV.v_un, EV.v_bin, EV.v_slL, EV.v_slH, EV.v_slLH, EV.v_tup, EV.v_lst, EV.v_and, EV.v_or, EV.v_not, EV.v_ite, EV.v_chain, EV.v_call, EV.v_callF, EV.v_callIo, EV.v_callT, EV.v_callv, EV.v_nil, EV.v_cons, EV.v_seq, EV.v_enum, EV.v_zip, EV.v_rng1, EV.v_C, s_asg', s_asgO', s_asg2', s_expr', s_ret', s_retN', s_if', s_raise', ss_nil', ss_cons', r_ok, r_exc, r_opt, t_nm, cr_ok, cr_exc, cr_okS, List.getD_cons_zero, List.getD_cons_succ, List.set_cons_zero, List.set_cons_succ, B.pre, B.ev, Cm.ev, U.ev, D.truth, D.toInt, D.items, if_true, if_false, Bool.not_true, Bool.not_false, reduceCtorEq, Option.map_some, Option.bind_some, List.length_cons, List.length_nil, Nat.zero_add, Nat.reduceAdd, Nat.reduceLT, Nat.reduceLeDiff, Bool.and_true, Bool.true_and, decide_true, whole_step_ok n (parts_txt h w hw')]
    have e1 : ((parts [32] s).map fun w => optD (stepOf w)) = ((parts [32] s).map stepOf).map (oD Stp.D) := by
      rw [List.map_map]
      exact List.map_congr_left fun w _ => optD_oD _
    rw [e1] at hk
    have hin := in_many (k := 2) stp_non (os := (parts [32] s).map stepOf) (fun a _ => gd_stp a) (by decide)
    rw [if_neg c1]
    unfold manyD
    refine run_of (ρ := [some (.str s), some (.tup (((parts [32] s).map stepOf).map (oD Stp.D))), none]) rfl ?_
    show evSs (C (n + 3)) wf0 d30.body [some (.str s), none, none] = _
    unfold d30
    cases hb : ((parts [32] s).map stepOf).all Option.isSome with
    | true =>
      rw [hb] at hin
      simp only [EV.v_lit, EV.v_var, EV.v_glob, EV.v_fn, EV.v_un, EV.v_bin, EV.v_slL, EV.v_slH, EV.v_slLH, EV.v_tup, EV.v_lst, EV.v_and, EV.v_or, EV.v_not, EV.v_ite, EV.v_chain, EV.v_call, EV.v_callF, EV.v_callIo, EV.v_callT, EV.v_callv, EV.v_nil, EV.v_cons, EV.v_seq, EV.v_enum, EV.v_zip, EV.v_rng1, EV.v_C, s_asg', s_asgO', s_asg2', s_expr', s_ret', s_retN', s_if', s_raise', ss_nil', ss_cons', r_ok, r_exc, r_opt, t_nm, cr_ok, cr_exc, cr_okS, List.getD_cons_zero, List.getD_cons_succ, List.set_cons_zero, List.set_cons_succ, B.pre, B.ev, Cm.ev, U.ev, D.truth, D.toInt, D.items, if_true, if_false, Bool.not_true, Bool.not_false, reduceCtorEq, Option.map_some, Option.bind_some, List.length_cons, List.length_nil, Nat.zero_add, Nat.reduceAdd, Nat.reduceLT, Nat.reduceLeDiff, Bool.and_true, Bool.true_and, decide_true, q, hk, hin]
    | false =>
      rw [hb] at hin
      simp only [EV.v_lit, EV.v_var, EV.v_glob, EV.v_fn, EV.v_un, EV.v_bin, EV.v_slL, EV.v_slH, EV.v_slLH, EV.v_tup, EV.v_lst, EV.v_and, EV.v_or, EV.v_not, EV.v_ite, EV.v_chain, EV.v_call, EV.v_callF, EV.v_callIo, EV.v_callT, EV.v_callv, EV.v_nil, EV.v_cons, EV.v_seq, EV.v_enum, EV.v_zip, EV.v_rng1, EV.v_C, s_asg', s_asgO', s_asg2', s_expr', s_ret', s_retN', s_if', s_raise', ss_nil', ss_cons', r_ok, r_exc, r_opt, t_nm, cr_ok, cr_exc, cr_okS, List.getD_cons_zero, List.getD_cons_succ, List.set_cons_zero, List.set_cons_succ, B.pre, B.ev, Cm.ev, U.ev, D.truth, D.toInt, D.items, if_true, if_false, Bool.not_true, Bool.not_false, reduceCtorEq, Option.map_some, Option.bind_some, List.length_cons, List.length_nil, Nat.zero_add, Nat.reduceAdd, Nat.reduceLT, Nat.reduceLeDiff, Bool.and_true, Bool.true_and, decide_true, q, hk, hin]
end K49
end
section
set_option autoImplicit false
/-! P49n: runs written. -/
namespace K49
open PySem EV

structure Stp.Ok (s : Stp) : Prop where
  pw : ∀ w ∈ s.pw, okNum w = true
  nm : okNum s.nm = true
  len : s.pw.length ≤ 1000
theorem is_pair_ok (n : Nat) {s : Stp} (h : s.Ok) : C (n + 3) 9 [s.D] = .ok (.bl true) s.D := by
  rw [C_succ (di := d9) rfl]
  refine run_of (ρ := [some s.D, none]) rfl ?_
  show evSs (C (n + 2)) wf0 d9.body [some s.D, none] = _
  unfold Stp.D
  have hk : evE (C (n + 2)) (.comp [("number", 1)] (.nm 1) (.seq (.bin .idx (.var 0) (.lit (.int 0)))) (.call false false 1 (.cons (.var 1) (.cons (.lit (.int 0)) .nil)))) [some (.tup [numT s.pw, .int (numVal s.nm : Nat)]), none] = .ok (.lst (s.pw.map fun _ => .bl true)) [some (.tup [numT s.pw, .int (numVal s.nm : Nat)]), none] := by
    refine comp_one (xs := s.pw) (e := fun w => .int (numVal w : Nat)) (g := fun _ => .bl true) ?_ (by simp) (len_le h.len) fun q hq => ?_
    · simp only [EV.v_lit, EV.v_var, EV.v_glob, EV.v_fn, EV.v_un, EV.v_bin, EV.v_slL, EV.v_slH, EV.v_slLH, EV.v_tup, EV.v_lst, EV.v_and, EV.v_or, EV.v_not, EV.v_ite, EV.v_chain, EV.v_call, EV.v_callF, EV.v_callIo, EV.v_callT, EV.v_callv, EV.v_nil, EV.v_cons, EV.v_seq, EV.v_enum, EV.v_zip, EV.v_rng1, EV.v_C, s_asg', s_asgO', s_asg2', s_expr', s_ret', s_retN', s_if', s_raise', ss_nil', ss_cons', r_ok, r_exc, r_opt, t_nm, cr_ok, cr_exc, cr_okS, List.getD_cons_zero, List.getD_cons_succ, List.set_cons_zero, List.set_cons_succ, B.pre, B.ev, Cm.ev, U.ev, D.truth, D.toInt, D.items, if_true, if_false, Bool.not_true, Bool.not_false, reduceCtorEq, Option.map_some, Option.bind_some, List.length_cons, List.length_nil, Nat.zero_add, Nat.reduceAdd, Nat.reduceLT, Nat.reduceLeDiff, Bool.and_true, Bool.true_and, decide_true, at0, numT]
    · have : decide ((0 : Int) ≤ ((numVal q : Nat) : Int)) = true := decide_eq_true (by omega)
      simp only [EV.v_lit, EV.v_var, EV.v_glob, EV.v_fn, EV.v_un, EV.v_bin, EV.v_slL, EV.v_slH, EV.v_slLH, EV.v_tup, EV.v_lst, EV.v_and, EV.v_or, EV.v_not, EV.v_ite, EV.v_chain, EV.v_call, EV.v_callF, EV.v_callIo, EV.v_callT, EV.v_callv, EV.v_nil, EV.v_cons, EV.v_seq, EV.v_enum, EV.v_zip, EV.v_rng1, EV.v_C, s_asg', s_asgO', s_asg2', s_expr', s_ret', s_retN', s_if', s_raise', ss_nil', ss_cons', r_ok, r_exc, r_opt, t_nm, cr_ok, cr_exc, cr_okS, List.getD_cons_zero, List.getD_cons_succ, List.set_cons_zero, List.set_cons_succ, B.pre, B.ev, Cm.ev, U.ev, D.truth, D.toInt, D.items, if_true, if_false, Bool.not_true, Bool.not_false, reduceCtorEq, Option.map_some, Option.bind_some, List.length_cons, List.length_nil, Nat.zero_add, Nat.reduceAdd, Nat.reduceLT, Nat.reduceLeDiff, Bool.and_true, Bool.true_and, decide_true, is_from_ok n, this]
  have hb : D.bls (s.pw.map fun _ => .bl true) = some (s.pw.map fun _ => true) := bls_map (fun _ => true) s.pw
  have ht : (s.pw.map fun _ => true).all id = true := all_true fun _ _ => rfl
  have ty : (numT s.pw).isa (fun t => t == "tuple") = some (.bl true) := rfl
  have i0 : decide ((0 : Int) ≤ ((numVal s.nm : Nat) : Int)) = true := decide_eq_true (by omega)
  unfold d9
  simp only [EV.v_lit, EV.v_var, EV.v_glob, EV.v_fn, EV.v_un, EV.v_bin, EV.v_slL, EV.v_slH, EV.v_slLH, EV.v_tup, EV.v_lst, EV.v_and, EV.v_or, EV.v_not, EV.v_ite, EV.v_chain, EV.v_call, EV.v_callF, EV.v_callIo, EV.v_callT, EV.v_callv, EV.v_nil, EV.v_cons, EV.v_seq, EV.v_enum, EV.v_zip, EV.v_rng1, EV.v_C, s_asg', s_asgO', s_asg2', s_expr', s_ret', s_retN', s_if', s_raise', ss_nil', ss_cons', r_ok, r_exc, r_opt, t_nm, cr_ok, cr_exc, cr_okS, List.getD_cons_zero, List.getD_cons_succ, List.set_cons_zero, List.set_cons_succ, B.pre, B.ev, Cm.ev, U.ev, D.truth, D.toInt, D.items, if_true, if_false, Bool.not_true, Bool.not_false, reduceCtorEq, Option.map_some, Option.bind_some, List.length_cons, List.length_nil, Nat.zero_add, Nat.reduceAdd, Nat.reduceLT, Nat.reduceLeDiff, Bool.and_true, Bool.true_and, decide_true, is_tuple_of_ok (n + 1) (ds := [numT s.pw, .int (numVal s.nm : Nat)]) (m := 2) rfl, at0, at1, ty, is_from_ok n, i0, hk, hb, ht]
theorem step_text_ok (n : Nat) {s : Stp} (h : s.Ok) (hl : s.text.length ≤ 1000) : C (n + 1) 18 [s.D] = .ok (.str s.text) s.D := by
  rw [C_succ (di := d18) rfl]
  refine run_of (ρ := [some s.D, some (.str (placeText s.pw)), none]) rfl ?_
  show evSs (C n) wf0 d18.body [some s.D, none, none] = _
  unfold Stp.text at hl ⊢
  unfold Stp.D
  have hs := str_word (w := s.nm) h.nm
  simp only [U.ev] at hs
  simp only [List.length_append, List.length_cons, List.length_nil] at hl
  have j2 : (placeText s.pw).length + 1 ≤ sizeLine := len_le (by omega)
  have j3 : (placeText s.pw ++ [58]).length + s.nm.length ≤ sizeLine := len_le (by simp only [List.length_append, List.length_cons, List.length_nil]; omega)
  obtain ⟨pw, nm⟩ := s
  have hs : (if ((numVal nm : Nat) : Int).natAbs.log2 < 1920 then some (D.str (numText ((numVal nm : Nat) : Int))) else none) = some (D.str nm) := hs
  cases pw with
  | nil =>
    have i0 : decide ((0 : Int) < ((0 : Nat) : Int)) = false := rfl
    unfold d18
    simp only [placeText, List.isEmpty_nil, if_true] at j2 j3 ⊢
    simp only [EV.v_lit, EV.v_var, EV.v_glob, EV.v_fn, EV.v_un, EV.v_bin, EV.v_slL, EV.v_slH, EV.v_slLH, EV.v_tup, EV.v_lst, EV.v_and, EV.v_or, EV.v_not, EV.v_ite, EV.v_chain, EV.v_call, EV.v_callF, EV.v_callIo, EV.v_callT, EV.v_callv, EV.v_nil, EV.v_cons, EV.v_seq, EV.v_enum, EV.v_zip, EV.v_rng1, EV.v_C, s_asg', s_asgO', s_asg2', s_expr', s_ret', s_retN', s_if', s_raise', ss_nil', ss_cons', r_ok, r_exc, r_opt, t_nm, cr_ok, cr_exc, cr_okS, List.getD_cons_zero, List.getD_cons_succ, List.set_cons_zero, List.set_cons_succ, B.pre, B.ev, Cm.ev, U.ev, D.truth, D.toInt, D.items, if_true, if_false, Bool.not_true, Bool.not_false, reduceCtorEq, Option.map_some, Option.bind_some, List.length_cons, List.length_nil, Nat.zero_add, Nat.reduceAdd, Nat.reduceLT, Nat.reduceLeDiff, Bool.and_true, Bool.true_and, decide_true, at0, at1, numT, List.map_nil, i0, hs, if_pos (show 2 ≤ sizeLine from len_le (by decide)), if_pos j3]
  | cons w ws =>
    have hw : ∀ q ∈ w :: ws, okNum q = true := h.pw
    have hn : (w :: ws).length ≤ 1000 := h.len
    have hpl : placeText (w :: ws) = TL.joinL [46] (w :: ws) := rfl
    rw [hpl] at hl j2 j3 ⊢
    have hk : evE (C n) (.comp [("number", 2)] (.nm 2) (.seq (.bin .idx (.var 0) (.lit (.int 0)))) (.un .str (.var 2))) [some (.tup [numT (w :: ws), .int (numVal nm : Nat)]), none, none] = .ok (.lst ((w :: ws).map fun w => .str w)) [some (.tup [numT (w :: ws), .int (numVal nm : Nat)]), none, none] := by
      refine comp_one (xs := w :: ws) (e := fun w => .int (numVal w : Nat)) (g := fun w => .str w) ?_ (by simp) (len_le hn) fun q hq => ?_
      · simp only [EV.v_lit, EV.v_var, EV.v_glob, EV.v_fn, EV.v_un, EV.v_bin, EV.v_slL, EV.v_slH, EV.v_slLH, EV.v_tup, EV.v_lst, EV.v_and, EV.v_or, EV.v_not, EV.v_ite, EV.v_chain, EV.v_call, EV.v_callF, EV.v_callIo, EV.v_callT, EV.v_callv, EV.v_nil, EV.v_cons, EV.v_seq, EV.v_enum, EV.v_zip, EV.v_rng1, EV.v_C, s_asg', s_asgO', s_asg2', s_expr', s_ret', s_retN', s_if', s_raise', ss_nil', ss_cons', r_ok, r_exc, r_opt, t_nm, cr_ok, cr_exc, cr_okS, List.getD_cons_zero, List.getD_cons_succ, List.set_cons_zero, List.set_cons_succ, B.pre, B.ev, Cm.ev, U.ev, D.truth, D.toInt, D.items, if_true, if_false, Bool.not_true, Bool.not_false, reduceCtorEq, Option.map_some, Option.bind_some, List.length_cons, List.length_nil, Nat.zero_add, Nat.reduceAdd, Nat.reduceLT, Nat.reduceLeDiff, Bool.and_true, Bool.true_and, decide_true, at0, numT]
      · have hs := str_word (hw q hq)
        simp only [U.ev] at hs
        simp only [EV.v_lit, EV.v_var, EV.v_glob, EV.v_fn, EV.v_un, EV.v_bin, EV.v_slL, EV.v_slH, EV.v_slLH, EV.v_tup, EV.v_lst, EV.v_and, EV.v_or, EV.v_not, EV.v_ite, EV.v_chain, EV.v_call, EV.v_callF, EV.v_callIo, EV.v_callT, EV.v_callv, EV.v_nil, EV.v_cons, EV.v_seq, EV.v_enum, EV.v_zip, EV.v_rng1, EV.v_C, s_asg', s_asgO', s_asg2', s_expr', s_ret', s_retN', s_if', s_raise', ss_nil', ss_cons', r_ok, r_exc, r_opt, t_nm, cr_ok, cr_exc, cr_okS, List.getD_cons_zero, List.getD_cons_succ, List.set_cons_zero, List.set_cons_succ, B.pre, B.ev, Cm.ev, U.ev, D.truth, D.toInt, D.items, if_true, if_false, Bool.not_true, Bool.not_false, reduceCtorEq, Option.map_some, Option.bind_some, List.length_cons, List.length_nil, Nat.zero_add, Nat.reduceAdd, Nat.reduceLT, Nat.reduceLeDiff, Bool.and_true, Bool.true_and, decide_true, hs]
    have hss : D.strs ((w :: ws).map fun q => .str q) = some ((w :: ws).map id) := strs_map id (w :: ws)
    rw [List.map_id] at hss
    have j1 : ((w :: ws).map (·.length)).sum + (ws.length + 1) * 1 ≤ 16777216 := by
      have := join_sum [46] (w :: ws)
      simp only [List.length_cons, List.length_nil] at this ⊢
      omega
    have i1 : decide ((0 : Int) < ((((w :: ws).map fun w => D.int (numVal w : Nat)).length : Nat) : Int)) = true := decide_eq_true (by simp only [List.length_map, List.length_cons]; omega)
    have ln : U.len.ev (numT (w :: ws)) = some (.int (((w :: ws).map fun w => D.int (numVal w : Nat)).length : Nat)) := rfl
    simp only [U.ev] at ln
    unfold d18
    simp only [EV.v_lit, EV.v_var, EV.v_glob, EV.v_fn, EV.v_un, EV.v_bin, EV.v_slL, EV.v_slH, EV.v_slLH, EV.v_tup, EV.v_lst, EV.v_and, EV.v_or, EV.v_not, EV.v_ite, EV.v_chain, EV.v_call, EV.v_callF, EV.v_callIo, EV.v_callT, EV.v_callv, EV.v_nil, EV.v_cons, EV.v_seq, EV.v_enum, EV.v_zip, EV.v_rng1, EV.v_C, s_asg', s_asgO', s_asg2', s_expr', s_ret', s_retN', s_if', s_raise', ss_nil', ss_cons', r_ok, r_exc, r_opt, t_nm, cr_ok, cr_exc, cr_okS, List.getD_cons_zero, List.getD_cons_succ, List.set_cons_zero, List.set_cons_succ, B.pre, B.ev, Cm.ev, U.ev, D.truth, D.toInt, D.items, if_true, if_false, Bool.not_true, Bool.not_false, reduceCtorEq, Option.map_some, Option.bind_some, List.length_cons, List.length_nil, Nat.zero_add, Nat.reduceAdd, Nat.reduceLT, Nat.reduceLeDiff, Bool.and_true, Bool.true_and, decide_true, at0, at1, ln, i1, hk, hss, hs, if_pos j1, if_pos j2, if_pos j3]
end K49
end
section
set_option autoImplicit false
/-! P49o: runs written. -/
namespace K49
open PySem EV

def runText (ss : List Stp) : List Nat := if ss.isEmpty then [45] else TL.joinL [32] (ss.map Stp.text)
theorem run_tu {ss : List Stp} (h : ∀ s ∈ ss, s.Ok) (hn : ss.length ≤ 1000) : Tu 3 (.tup (ss.map Stp.D)) := .tup (by rw [List.length_map]; exact hn) fun d hd => by
  obtain ⟨s, hs, rfl⟩ := List.mem_map.mp hd
  refine .tup (by simp) fun e he => ?_
  rcases List.mem_cons.mp he with rfl | he
  · exact num_tu s.pw (h s hs).len
  · rcases List.mem_cons.mp he with rfl | he
    · exact .int _ _
    · cases he
theorem made_run_text_ok (n : Nat) {ss : List Stp} (h : ∀ s ∈ ss, s.Ok) (hn : ss.length ≤ 1000) (hl : (runText ss).length ≤ 1000) : C (n + 2) 19 [.tup (ss.map Stp.D)] = .ok (.str (runText ss)) (.tup (ss.map Stp.D)) := by
  rw [C_succ (di := d19) rfl]
  refine run_of (ρ := [some (.tup (ss.map Stp.D)), none]) rfl ?_
  show evSs (C (n + 1)) wf0 d19.body [some (.tup (ss.map Stp.D)), none] = _
  cases ss with
  | nil =>
    have i0 : decide ((0 : Int) < ((0 : Nat) : Int)) = false := rfl
    unfold d19
    simp only [EV.v_lit, EV.v_var, EV.v_glob, EV.v_fn, EV.v_un, EV.v_bin, EV.v_slL, EV.v_slH, EV.v_slLH, EV.v_tup, EV.v_lst, EV.v_and, EV.v_or, EV.v_not, EV.v_ite, EV.v_chain, EV.v_call, EV.v_callF, EV.v_callIo, EV.v_callT, EV.v_callv, EV.v_nil, EV.v_cons, EV.v_seq, EV.v_enum, EV.v_zip, EV.v_rng1, EV.v_C, s_asg', s_asgO', s_asg2', s_expr', s_ret', s_retN', s_if', s_raise', ss_nil', ss_cons', r_ok, r_exc, r_opt, t_nm, cr_ok, cr_exc, cr_okS, List.getD_cons_zero, List.getD_cons_succ, List.set_cons_zero, List.set_cons_succ, B.pre, B.ev, Cm.ev, U.ev, D.truth, D.toInt, D.items, if_true, if_false, Bool.not_true, Bool.not_false, reduceCtorEq, Option.map_some, Option.bind_some, List.length_cons, List.length_nil, Nat.zero_add, Nat.reduceAdd, Nat.reduceLT, Nat.reduceLeDiff, Bool.and_true, Bool.true_and, decide_true, List.map_nil, i0]
    rfl
  | cons r rs =>
    have hl : (TL.joinL [32] ((r :: rs).map Stp.text)).length ≤ 1000 := hl
    have hk : evE (C (n + 1)) (.comp [("step", 1)] (.nm 1) (.seq (.var 0)) (.call false false 18 (.cons (.var 1) .nil))) [some (.tup ((r :: rs).map Stp.D)), none] = .ok (.lst ((r :: rs).map fun q => .str q.text)) [some (.tup ((r :: rs).map Stp.D)), none] := by
      refine comp_one (xs := r :: rs) (e := Stp.D) (g := fun q => .str q.text) ?_ (by simp) (len_le hn) fun q hq => ?_
      · simp only [EV.v_lit, EV.v_var, EV.v_glob, EV.v_fn, EV.v_un, EV.v_bin, EV.v_slL, EV.v_slH, EV.v_slLH, EV.v_tup, EV.v_lst, EV.v_and, EV.v_or, EV.v_not, EV.v_ite, EV.v_chain, EV.v_call, EV.v_callF, EV.v_callIo, EV.v_callT, EV.v_callv, EV.v_nil, EV.v_cons, EV.v_seq, EV.v_enum, EV.v_zip, EV.v_rng1, EV.v_C, s_asg', s_asgO', s_asg2', s_expr', s_ret', s_retN', s_if', s_raise', ss_nil', ss_cons', r_ok, r_exc, r_opt, t_nm, cr_ok, cr_exc, cr_okS, List.getD_cons_zero, List.getD_cons_succ, List.set_cons_zero, List.set_cons_succ, B.pre, B.ev, Cm.ev, U.ev, D.truth, D.toInt, D.items, if_true, if_false, Bool.not_true, Bool.not_false, reduceCtorEq, Option.map_some, Option.bind_some, List.length_cons, List.length_nil, Nat.zero_add, Nat.reduceAdd, Nat.reduceLT, Nat.reduceLeDiff, Bool.and_true, Bool.true_and, decide_true]
      · simp only [EV.v_lit, EV.v_var, EV.v_glob, EV.v_fn, EV.v_un, EV.v_bin, EV.v_slL, EV.v_slH, EV.v_slLH, EV.v_tup, EV.v_lst, EV.v_and, EV.v_or, EV.v_not, EV.v_ite, EV.v_chain, EV.v_call, EV.v_callF, EV.v_callIo, EV.v_callT, EV.v_callv, EV.v_nil, EV.v_cons, EV.v_seq, EV.v_enum, EV.v_zip, EV.v_rng1, EV.v_C, s_asg', s_asgO', s_asg2', s_expr', s_ret', s_retN', s_if', s_raise', ss_nil', ss_cons', r_ok, r_exc, r_opt, t_nm, cr_ok, cr_exc, cr_okS, List.getD_cons_zero, List.getD_cons_succ, List.set_cons_zero, List.set_cons_succ, B.pre, B.ev, Cm.ev, U.ev, D.truth, D.toInt, D.items, if_true, if_false, Bool.not_true, Bool.not_false, reduceCtorEq, Option.map_some, Option.bind_some, List.length_cons, List.length_nil, Nat.zero_add, Nat.reduceAdd, Nat.reduceLT, Nat.reduceLeDiff, Bool.and_true, Bool.true_and, decide_true, step_text_ok n (h q hq) (Nat.le_trans (join_mem (List.mem_map.mpr ⟨q, hq, rfl⟩)) hl)]
    have hs : D.strs ((r :: rs).map fun q => .str q.text) = some ((r :: rs).map Stp.text) := strs_map Stp.text (r :: rs)
    have j1 : (((r :: rs).map Stp.text).map (·.length)).sum + ((r :: rs).map Stp.text).length * 1 ≤ 16777216 := by
      have := join_sum [32] ((r :: rs).map Stp.text)
      simp only [List.length_cons, List.length_nil] at this ⊢
      omega
    have i1 : decide ((0 : Int) < ((((r :: rs).map Stp.D).length : Nat) : Int)) = true := decide_eq_true (by simp only [List.length_map, List.length_cons]; omega)
    unfold d19
    simp only [EV.v_lit, EV.v_var, EV.v_glob, EV.v_fn, EV.v_un, EV.v_bin, EV.v_slL, EV.v_slH, EV.v_slLH, EV.v_tup, EV.v_lst, EV.v_and, EV.v_or, EV.v_not, EV.v_ite, EV.v_chain, EV.v_call, EV.v_callF, EV.v_callIo, EV.v_callT, EV.v_callv, EV.v_nil, EV.v_cons, EV.v_seq, EV.v_enum, EV.v_zip, EV.v_rng1, EV.v_C, s_asg', s_asgO', s_asg2', s_expr', s_ret', s_retN', s_if', s_raise', ss_nil', ss_cons', r_ok, r_exc, r_opt, t_nm, cr_ok, cr_exc, cr_okS, List.getD_cons_zero, List.getD_cons_succ, List.set_cons_zero, List.set_cons_succ, B.pre, B.ev, Cm.ev, U.ev, D.truth, D.toInt, D.items, if_true, if_false, Bool.not_true, Bool.not_false, reduceCtorEq, Option.map_some, Option.bind_some, List.length_cons, List.length_nil, Nat.zero_add, Nat.reduceAdd, Nat.reduceLT, Nat.reduceLeDiff, Bool.and_true, Bool.true_and, decide_true, hk, hs, if_pos j1, i1]
    rfl
theorem run_text_ok (n : Nat) {ss : List Stp} (h : ∀ s ∈ ss, s.Ok) (hn : ss.length ≤ 1000) (hl : (runText ss).length ≤ 1000) : C (n + 5) 20 [.tup (ss.map Stp.D)] = .ok (.str (runText ss)) (.tup (ss.map Stp.D)) := by
  rw [C_succ (di := d20) rfl]
  refine run_of (ρ := [some (.tup (ss.map Stp.D)), some (.tup (ss.map Stp.D)), none]) rfl ?_
  have hto : C (n + 4) 2 [.tup (ss.map Stp.D)] = .ok (.tup (ss.map Stp.D)) (.tup (ss.map Stp.D)) := tuple_of_ok (run_tu h hn) n
  show evSs (C (n + 4)) wf0 d20.body [some (.tup (ss.map Stp.D)), none, none] = _
  have hk : evE (C (n + 4)) (.comp [("step", 2)] (.nm 2) (.seq (.var 1)) (.call false false 9 (.cons (.var 2) .nil))) [some (.tup (ss.map Stp.D)), some (.tup (ss.map Stp.D)), none] = .ok (.lst (ss.map fun _ => .bl true)) [some (.tup (ss.map Stp.D)), some (.tup (ss.map Stp.D)), none] := by
    refine comp_one (xs := ss) (e := Stp.D) (g := fun _ => .bl true) ?_ (by simp) (len_le hn) fun q hq => ?_
    · simp only [EV.v_lit, EV.v_var, EV.v_glob, EV.v_fn, EV.v_un, EV.v_bin, EV.v_slL, EV.v_slH, EV.v_slLH, EV.v_tup, EV.v_lst, EV.v_and, EV.v_or, EV.v_not, EV.v_ite, EV.v_chain, EV.v_call, EV.v_callF, EV.v_callIo, EV.v_callT, EV.v_callv, EV.v_nil, EV.v_cons, EV.v_seq, EV.v_enum, EV.v_zip, EV.v_rng1, EV.v_C, s_asg', s_asgO', s_asg2', s_expr', s_ret', s_retN', s_if', s_raise', ss_nil', ss_cons', r_ok, r_exc, r_opt, t_nm, cr_ok, cr_exc, cr_okS, List.getD_cons_zero, List.getD_cons_succ, List.set_cons_zero, List.set_cons_succ, B.pre, B.ev, Cm.ev, U.ev, D.truth, D.toInt, D.items, if_true, if_false, Bool.not_true, Bool.not_false, reduceCtorEq, Option.map_some, Option.bind_some, List.length_cons, List.length_nil, Nat.zero_add, Nat.reduceAdd, Nat.reduceLT, Nat.reduceLeDiff, Bool.and_true, Bool.true_and, decide_true]
    · simp only [EV.v_lit, EV.v_var, EV.v_glob, EV.v_fn, EV.v_un, EV.v_bin, EV.v_slL, EV.v_slH, EV.v_slLH, EV.v_tup, EV.v_lst, EV.v_and, EV.v_or, EV.v_not, EV.v_ite, EV.v_chain, EV.v_call, EV.v_callF, EV.v_callIo, EV.v_callT, EV.v_callv, EV.v_nil, EV.v_cons, EV.v_seq, EV.v_enum, EV.v_zip, EV.v_rng1, EV.v_C, s_asg', s_asgO', s_asg2', s_expr', s_ret', s_retN', s_if', s_raise', ss_nil', ss_cons', r_ok, r_exc, r_opt, t_nm, cr_ok, cr_exc, cr_okS, List.getD_cons_zero, List.getD_cons_succ, List.set_cons_zero, List.set_cons_succ, B.pre, B.ev, Cm.ev, U.ev, D.truth, D.toInt, D.items, if_true, if_false, Bool.not_true, Bool.not_false, reduceCtorEq, Option.map_some, Option.bind_some, List.length_cons, List.length_nil, Nat.zero_add, Nat.reduceAdd, Nat.reduceLT, Nat.reduceLeDiff, Bool.and_true, Bool.true_and, decide_true, is_pair_ok (n + 1) (h q hq)]
  have hb : D.bls (ss.map fun _ => .bl true) = some (ss.map fun _ => true) := bls_map (fun _ => true) ss
  have ht : (ss.map fun _ => true).all id = true := all_true fun _ _ => rfl
  have ty : (D.tup (ss.map Stp.D)).isa (fun t => t == "tuple") = some (.bl true) := rfl
  unfold d20
  simp only [EV.v_lit, EV.v_var, EV.v_glob, EV.v_fn, EV.v_un, EV.v_bin, EV.v_slL, EV.v_slH, EV.v_slLH, EV.v_tup, EV.v_lst, EV.v_and, EV.v_or, EV.v_not, EV.v_ite, EV.v_chain, EV.v_call, EV.v_callF, EV.v_callIo, EV.v_callT, EV.v_callv, EV.v_nil, EV.v_cons, EV.v_seq, EV.v_enum, EV.v_zip, EV.v_rng1, EV.v_C, s_asg', s_asgO', s_asg2', s_expr', s_ret', s_retN', s_if', s_raise', ss_nil', ss_cons', r_ok, r_exc, r_opt, t_nm, cr_ok, cr_exc, cr_okS, List.getD_cons_zero, List.getD_cons_succ, List.set_cons_zero, List.set_cons_succ, B.pre, B.ev, Cm.ev, U.ev, D.truth, D.toInt, D.items, if_true, if_false, Bool.not_true, Bool.not_false, reduceCtorEq, Option.map_some, Option.bind_some, List.length_cons, List.length_nil, Nat.zero_add, Nat.reduceAdd, Nat.reduceLT, Nat.reduceLeDiff, Bool.and_true, Bool.true_and, decide_true, hto, hk, hb, ht, ty, sure_ok, made_run_text_ok (n + 2) h hn hl]
end K49
end
section
set_option autoImplicit false
/-! P49p: where a name ends. -/
namespace K49
open PySem EV

def nameEnd (s : List Nat) (a : Nat) : Nat := a + ((s.drop a).takeWhile small).length
theorem nameEnd_stop {s : List Nat} {a : Nat} (h : s.length ≤ a) : nameEnd s a = a := by
  unfold nameEnd
  rw [List.drop_eq_nil_of_le h]
  rfl
theorem nameEnd_no {s : List Nat} {a c : Nat} (hc : s[a]? = some c) (h : small c = false) : nameEnd s a = a := by
  unfold nameEnd
  obtain ⟨hl, rfl⟩ := List.getElem?_eq_some_iff.mp hc
  rw [List.drop_eq_getElem_cons hl, List.takeWhile_cons_of_neg (by rw [h]; exact Bool.false_ne_true)]
  rfl
theorem nameEnd_yes {s : List Nat} {a c : Nat} (hc : s[a]? = some c) (h : small c = true) : nameEnd s a = nameEnd s (a + 1) := by
  unfold nameEnd
  obtain ⟨hl, rfl⟩ := List.getElem?_eq_some_iff.mp hc
  rw [List.drop_eq_getElem_cons hl, List.takeWhile_cons_of_pos h, List.length_cons]
  omega
theorem atN {s : List Nat} {a c : Nat} (h : s[a]? = some c) : L2.atI s (a : Int) = some c := by
  have hl := (List.getElem?_eq_some_iff.mp h).1
  unfold L2.atI L2.ixN
  rw [if_pos (by omega), if_pos (by omega)]
  exact h
theorem name_loop (n : Nat) {s : List Nat} (hz : s.length ≤ sizeLine) : ∀ (m fuel a : Nat), s.length - a ≤ m → m < fuel →
    whileGo (evC (C n) (.and_ (.bin (.cmp .lt) (.var 1) (.un .len (.var 0))) (.bin (.cmp .isin) (.bin .idx (.var 0) (.var 1)) (.glob "SMALL" (.str abc))))) (evSs (C n) wf0 (.cons (.aug 1 (.lit (.int 1))) .nil)) fuel [some (.str s), some (.int (a : Nat))] = .ok .nx [some (.str s), some (.int (nameEnd s a : Nat))] := by
  intro m
  induction m with
  | zero =>
    intro fuel a h1 h2
    obtain ⟨fuel, rfl⟩ : ∃ f, fuel = f + 1 := ⟨fuel - 1, by omega⟩
    have i1 : decide (((a : Nat) : Int) < ((s.length : Nat) : Int)) = false := decide_eq_false (by omega)
    rw [nameEnd_stop (by omega)]
    show (evC _ _ _).bind _ = _
    simp only [EV.v_lit, EV.v_var, EV.v_glob, EV.v_fn, EV.v_un, EV.v_bin, EV.v_slL, EV.v_slH, EV.v_slLH, EV.v_tup, EV.v_lst, EV.v_and, EV.v_or, EV.v_not, EV.v_ite, EV.v_chain, EV.v_call, EV.v_callF, EV.v_callIo, EV.v_callT, EV.v_callv, EV.v_nil, EV.v_cons, EV.v_seq, EV.v_enum, EV.v_zip, EV.v_rng1, EV.v_C, s_asg', s_asgO', s_asg2', s_expr', s_ret', s_retN', s_if', s_raise', ss_nil', ss_cons', r_ok, r_exc, r_opt, t_nm, cr_ok, cr_exc, cr_okS, List.getD_cons_zero, List.getD_cons_succ, List.set_cons_zero, List.set_cons_succ, B.pre, B.ev, Cm.ev, U.ev, D.truth, D.toInt, D.items, if_true, if_false, Bool.not_true, Bool.not_false, reduceCtorEq, Option.map_some, Option.bind_some, List.length_cons, List.length_nil, Nat.zero_add, Nat.reduceAdd, Nat.reduceLT, Nat.reduceLeDiff, Bool.and_true, Bool.true_and, decide_true, hz, i1]
  | succ m ih =>
    intro fuel a h1 h2
    obtain ⟨fuel, rfl⟩ : ∃ f, fuel = f + 1 := ⟨fuel - 1, by omega⟩
    show (evC _ _ _).bind _ = _
    by_cases hl : a < s.length
    · have i1 : decide (((a : Nat) : Int) < ((s.length : Nat) : Int)) = true := decide_eq_true (by omega)
      have hc : s[a]? = some s[a] := List.getElem?_eq_getElem hl
      cases hs : small s[a] with
      | false =>
        rw [nameEnd_no hc hs]
        simp only [EV.v_lit, EV.v_var, EV.v_glob, EV.v_fn, EV.v_un, EV.v_bin, EV.v_slL, EV.v_slH, EV.v_slLH, EV.v_tup, EV.v_lst, EV.v_and, EV.v_or, EV.v_not, EV.v_ite, EV.v_chain, EV.v_call, EV.v_callF, EV.v_callIo, EV.v_callT, EV.v_callv, EV.v_nil, EV.v_cons, EV.v_seq, EV.v_enum, EV.v_zip, EV.v_rng1, EV.v_C, s_asg', s_asgO', s_asg2', s_expr', s_ret', s_retN', s_if', s_raise', ss_nil', ss_cons', r_ok, r_exc, r_opt, t_nm, cr_ok, cr_exc, cr_okS, List.getD_cons_zero, List.getD_cons_succ, List.set_cons_zero, List.set_cons_succ, B.pre, B.ev, Cm.ev, U.ev, D.truth, D.toInt, D.items, if_true, if_false, Bool.not_true, Bool.not_false, reduceCtorEq, Option.map_some, Option.bind_some, List.length_cons, List.length_nil, Nat.zero_add, Nat.reduceAdd, Nat.reduceLT, Nat.reduceLeDiff, Bool.and_true, Bool.true_and, decide_true, hz, i1, atN hc, mem_abc, hs]
      | true =>
        rw [nameEnd_yes hc hs]
        simp only [EV.v_lit, EV.v_var, EV.v_glob, EV.v_fn, EV.v_un, EV.v_bin, EV.v_slL, EV.v_slH, EV.v_slLH, EV.v_tup, EV.v_lst, EV.v_and, EV.v_or, EV.v_not, EV.v_ite, EV.v_chain, EV.v_call, EV.v_callF, EV.v_callIo, EV.v_callT, EV.v_callv, EV.v_nil, EV.v_cons, EV.v_seq, EV.v_enum, EV.v_zip, EV.v_rng1, EV.v_C, s_asg', s_asgO', s_asg2', s_expr', s_ret', s_retN', s_if', s_raise', ss_nil', ss_cons', r_ok, r_exc, r_opt, t_nm, cr_ok, cr_exc, cr_okS, List.getD_cons_zero, List.getD_cons_succ, List.set_cons_zero, List.set_cons_succ, B.pre, B.ev, Cm.ev, U.ev, D.truth, D.toInt, D.items, if_true, if_false, Bool.not_true, Bool.not_false, reduceCtorEq, Option.map_some, Option.bind_some, List.length_cons, List.length_nil, Nat.zero_add, Nat.reduceAdd, Nat.reduceLT, Nat.reduceLeDiff, Bool.and_true, Bool.true_and, decide_true, hz, i1, atN hc, mem_abc, hs]
        exact ih fuel (a + 1) (by omega) (by omega)
    · have i1 : decide (((a : Nat) : Int) < ((s.length : Nat) : Int)) = false := decide_eq_false (by omega)
      rw [nameEnd_stop (by omega)]
      simp only [EV.v_lit, EV.v_var, EV.v_glob, EV.v_fn, EV.v_un, EV.v_bin, EV.v_slL, EV.v_slH, EV.v_slLH, EV.v_tup, EV.v_lst, EV.v_and, EV.v_or, EV.v_not, EV.v_ite, EV.v_chain, EV.v_call, EV.v_callF, EV.v_callIo, EV.v_callT, EV.v_callv, EV.v_nil, EV.v_cons, EV.v_seq, EV.v_enum, EV.v_zip, EV.v_rng1, EV.v_C, s_asg', s_asgO', s_asg2', s_expr', s_ret', s_retN', s_if', s_raise', ss_nil', ss_cons', r_ok, r_exc, r_opt, t_nm, cr_ok, cr_exc, cr_okS, List.getD_cons_zero, List.getD_cons_succ, List.set_cons_zero, List.set_cons_succ, B.pre, B.ev, Cm.ev, U.ev, D.truth, D.toInt, D.items, if_true, if_false, Bool.not_true, Bool.not_false, reduceCtorEq, Option.map_some, Option.bind_some, List.length_cons, List.length_nil, Nat.zero_add, Nat.reduceAdd, Nat.reduceLT, Nat.reduceLeDiff, Bool.and_true, Bool.true_and, decide_true, hz, i1]
theorem name_end_ok (n : Nat) {s : List Nat} (h : Txt s) (a : Nat) : C (n + 1) 22 [.str s, .int (a : Nat)] = .ok (.int (nameEnd s a : Nat)) (.str s) := by
  rw [C_succ (di := d22) rfl]
  refine run_of (ρ := [some (.str s), some (.int (nameEnd s a : Nat))]) rfl ?_
  show evSs (C n) wf0 d22.body [some (.str s), some (.int (a : Nat))] = _
  have hw : wf0 = 1000000 := rfl
  have hl := name_loop n (s := s) (len_le (by have := h.1; omega)) s.length wf0 a (by omega) (by have := h.1; omega)
  have hw2 : evS (C n) wf0 (.while_ (.and_ (.bin (.cmp .lt) (.var 1) (.un .len (.var 0))) (.bin (.cmp .isin) (.bin .idx (.var 0) (.var 1)) (.glob "SMALL" (.str abc)))) (.cons (.aug 1 (.lit (.int 1))) .nil)) [some (.str s), some (.int (a : Nat))] = .ok .nx [some (.str s), some (.int (nameEnd s a : Nat))] := hl
  unfold abc at hw2
  unfold d22
  simp only [EV.v_lit, EV.v_var, EV.v_glob, EV.v_fn, EV.v_un, EV.v_bin, EV.v_slL, EV.v_slH, EV.v_slLH, EV.v_tup, EV.v_lst, EV.v_and, EV.v_or, EV.v_not, EV.v_ite, EV.v_chain, EV.v_call, EV.v_callF, EV.v_callIo, EV.v_callT, EV.v_callv, EV.v_nil, EV.v_cons, EV.v_seq, EV.v_enum, EV.v_zip, EV.v_rng1, EV.v_C, s_asg', s_asgO', s_asg2', s_expr', s_ret', s_retN', s_if', s_raise', ss_nil', ss_cons', r_ok, r_exc, r_opt, t_nm, cr_ok, cr_exc, cr_okS, List.getD_cons_zero, List.getD_cons_succ, List.set_cons_zero, List.set_cons_succ, B.pre, B.ev, Cm.ev, U.ev, D.truth, D.toInt, D.items, if_true, if_false, Bool.not_true, Bool.not_false, reduceCtorEq, Option.map_some, Option.bind_some, List.length_cons, List.length_nil, Nat.zero_add, Nat.reduceAdd, Nat.reduceLT, Nat.reduceLeDiff, Bool.and_true, Bool.true_and, decide_true, hw2]
end K49
end
section
set_option autoImplicit false
/-! P49q: terms read. -/
namespace K49
open PySem EV

/-- parts of a term, the first one behind place e -/
def pargs (rd : Nat → Option (T × Nat)) (s nm : List Nat) : Nat → List T → Nat → Option (T × Nat)
  | 0, _, _ => none
  | k + 1, acc, e => match rd (e + 1) with
    | none => none
    | some (t, e') => if s[e']? = some 41 then some (.mk nm (acc ++ [t]), e' + 1) else if s[e']? = some 44 then pargs rd s nm k (acc ++ [t]) e' else none
/-- the term at place a, and where it ends; n: more than the signs from a on -/
def pt (s : List Nat) : Nat → Nat → Option (T × Nat)
  | 0, _ => none
  | n + 1, a => if 0 < nameEnd s a - a ∧ nameEnd s a - a ≤ 8 then
      (if s[nameEnd s a]? = some 40 then pargs (pt s n) s ((s.drop a).take (nameEnd s a - a)) 3 [] (nameEnd s a) else some (.mk ((s.drop a).take (nameEnd s a - a)) [], nameEnd s a))
    else none
def wholeT (s : List Nat) : Option T := match pt s (s.length + 1) 0 with
  | some (t, e) => if e = s.length then some t else none
  | none => none
end K49
end
section
set_option autoImplicit false
/-! P49r: what is read is the text itself. -/
namespace K49
open PySem EV

theorem nameEnd_ge (s : List Nat) (a : Nat) : a ≤ nameEnd s a := Nat.le_add_right _ _
theorem nameEnd_le {s : List Nat} {a : Nat} (h : a ≤ s.length) : nameEnd s a ≤ s.length := by
  unfold nameEnd
  have := (List.takeWhile_sublist (l := s.drop a) small).length_le
  rw [List.length_drop] at this
  omega
theorem name_take (s : List Nat) (a : Nat) : (s.drop a).take (nameEnd s a - a) = (s.drop a).takeWhile small := by
  unfold nameEnd
  rw [Nat.add_sub_cancel_left]
  exact List.prefix_iff_eq_take.mp (List.takeWhile_prefix small) |>.symm
theorem name_okName {s : List Nat} {a : Nat} (h : 0 < nameEnd s a - a ∧ nameEnd s a - a ≤ 8) : okName ((s.drop a).take (nameEnd s a - a)) := by
  rw [name_take]
  have hl : ((s.drop a).takeWhile small).length = nameEnd s a - a := by
    unfold nameEnd
    omega
  exact ⟨by omega, by omega, fun c hc => List.all_eq_true.mp (List.all_takeWhile) c hc⟩

/-- a term and its place -/
structure At (s : List Nat) (a : Nat) (t : T) (e : Nat) : Prop where
  lt : a < e
  le : e ≤ s.length
  tx : t.text = (s.drop a).take (e - a)
  ok : ∃ k, T.Ok k t ∧ 3 * k ≤ e - a + 2
theorem cut_cut (s : List Nat) {a b c : Nat} (h1 : a ≤ b) (h2 : b ≤ c) : (s.drop a).take (c - a) = (s.drop a).take (b - a) ++ (s.drop b).take (c - b) := by
  have e1 : c - a = (b - a) + (c - b) := by omega
  rw [e1, List.take_add, List.drop_drop]
  congr 3
  omega
theorem cut_one {s : List Nat} {a c : Nat} (h : s[a]? = some c) : (s.drop a).take 1 = [c] := by
  obtain ⟨hl, rfl⟩ := List.getElem?_eq_some_iff.mp h
  rw [List.drop_eq_getElem_cons hl]
  rfl
theorem joinL_snoc (S : List Nat) (x : List Nat) : ∀ {ps : List (List Nat)}, ps ≠ [] → TL.joinL S (ps ++ [x]) = TL.joinL S ps ++ (S ++ x)
  | [], h => absurd rfl h
  | [p], _ => rfl
  | p :: q :: r, _ => by
    show p ++ (S ++ TL.joinL S (q :: r ++ [x])) = p ++ (S ++ TL.joinL S (q :: r)) ++ (S ++ x)
    rw [joinL_snoc S x (List.cons_ne_nil q r)]
    simp only [List.append_assoc]
end K49
end
section
set_option autoImplicit false
/-! P49s: the parse is sound. -/
namespace K49
open PySem EV

theorem pargs_ok {s nm : List Nat} {a : Nat} {rd : Nat → Option (T × Nat)} (hrd : ∀ b t e, rd b = some (t, e) → At s b t e) (hnm : okName nm) : ∀ (k : Nat) (acc : List T) (e : Nat), acc.length + k = 3 → a + 1 ≤ e → e < s.length →
    (s.drop a).take (e + 1 - a) = nm ++ [40] ++ (if acc.isEmpty then [] else TL.joinL [44] (acc.map T.text) ++ [44]) → (∃ d, (∀ p ∈ acc, T.Ok d p) ∧ 3 * d ≤ e - a) → ∀ t e', pargs rd s nm k acc e = some (t, e') → At s a t e'
  | 0, acc, e, _, _, _, _, _, t, e', h => by cases h
  | k + 1, acc, e, hk, hae, hel, hcut, ⟨d, hd, hd3⟩, t, e', h => by
    unfold pargs at h
    cases hr : rd (e + 1) with
    | none => rw [hr] at h; cases h
    | some pr =>
      obtain ⟨p, e1⟩ := pr
      rw [hr] at h
      obtain ⟨a1, a2, a3, kp, a4, a5⟩ := hrd _ _ _ hr
      have hall : ∀ q ∈ acc ++ [p], T.Ok (max d kp) q := fun q hq => by
        rcases List.mem_append.mp hq with hq | hq
        · exact (hd q hq).mono (Nat.le_max_left _ _)
        · rw [List.mem_singleton.mp hq]
          exact a4.mono (Nat.le_max_right _ _)
      have hmax : 3 * max d kp ≤ e1 - a := by
        rcases Nat.le_total d kp with z | z
        · rw [Nat.max_eq_right z]; omega
        · rw [Nat.max_eq_left z]; omega
      have hj : nm ++ [40] ++ (if acc.isEmpty then [] else TL.joinL [44] (acc.map T.text) ++ [44]) ++ p.text = nm ++ [40] ++ TL.joinL [44] ((acc ++ [p]).map T.text) := by
        cases acc with
        | nil => simp [TL.joinL]
        | cons q qs =>
          rw [List.map_append, List.map_cons (l := []), List.map_nil, joinL_snoc [44] _ (by simp)]
          simp [List.append_assoc]
      have hc1 : (s.drop a).take (e1 - a) = nm ++ [40] ++ TL.joinL [44] ((acc ++ [p]).map T.text) := by
        rw [cut_cut s (show a ≤ e + 1 by omega) (show e + 1 ≤ e1 by omega), hcut, ← a3, hj]
      have hc2 : ∀ c, s[e1]? = some c → (s.drop a).take (e1 + 1 - a) = nm ++ [40] ++ TL.joinL [44] ((acc ++ [p]).map T.text) ++ [c] := fun c hc => by
        rw [cut_cut s (show a ≤ e1 by omega) (show e1 ≤ e1 + 1 by omega), hc1, show e1 + 1 - e1 = 1 by omega, cut_one hc]
      simp only at h
      split at h
      · rename_i hc
        cases h
        refine ⟨by omega, (List.getElem?_eq_some_iff.mp hc).1, ?_, max d kp + 1, .mk hnm (by simp; omega) hall, by omega⟩
        rw [hc2 41 hc, T.text_mk, if_neg (by simp)]
      · split at h
        · rename_i hc
          refine pargs_ok hrd hnm k (acc ++ [p]) e1 (by simp; omega) (by omega) (List.getElem?_eq_some_iff.mp hc).1 ?_ ⟨max d kp, hall, hmax⟩ t e' h
          rw [hc2 44 hc, if_neg (by simp)]
          simp [List.append_assoc]
        · cases h
theorem pt_ok (s : List Nat) : ∀ (n a : Nat) (t : T) (e : Nat), a ≤ s.length → pt s n a = some (t, e) → At s a t e
  | 0, a, t, e, _, h => by cases h
  | n + 1, a, t, e, hal, h => by
    unfold pt at h
    split at h
    · rename_i hn
      have hok := name_okName hn
      have hle := nameEnd_le hal
      split at h
      · rename_i hc
        refine pargs_ok (fun b t e hb => ?_) hok 3 [] (nameEnd s a) rfl (by omega) (List.getElem?_eq_some_iff.mp hc).1 ?_ ⟨0, (fun _ hp => by cases hp), by omega⟩ t e h
        · by_cases hb' : b ≤ s.length
          · exact pt_ok s n b t e hb' hb
          · exfalso
            cases n with
            | zero => cases hb
            | succ n =>
              unfold pt at hb
              rw [nameEnd_stop (by omega), if_neg (by omega)] at hb
              cases hb
        · rw [cut_cut s (nameEnd_ge s a) (Nat.le_succ _), show nameEnd s a + 1 - nameEnd s a = 1 by omega, cut_one hc]
          simp
      · cases h
        refine ⟨by omega, hle, ?_, 1, .mk hok (by simp) (fun _ hp => by cases hp), by omega⟩
        rw [T.text_mk]
        rfl
    · cases h
end K49
end
section
set_option autoImplicit false
/-! P49t: read_term. -/
namespace K49
open PySem EV

/-- one sign of a text, or nothing behind its end -/
def sgn (s : List Nat) (e : Nat) : List Nat := match s[e]? with
  | some c => [c]
  | none => []
theorem slice_sgn {s : List Nat} (hz : s.length ≤ sizeLine) (e : Nat) : D.slice (.str s) (some (e : Nat)) (some ((e : Int) + 1)) = some (.str (sgn s e)) := by
  show (if s.length ≤ sizeLine then some (D.str (cut s (some (e : Nat)) (some ((e : Int) + 1)))) else none) = _
  rw [if_pos hz]
  have e1 : ((e : Int) + 1) = ((e + 1 : Nat) : Int) := by omega
  rw [e1]
  unfold cut
  rw [HT.sIx_nat, HT.sIx_nat]
  unfold sgn
  cases hc : s[e]? with
  | none =>
    have := List.getElem?_eq_none_iff.mp hc
    rw [Nat.min_eq_right this, List.drop_length]
    simp
  | some c =>
    have hl := (List.getElem?_eq_some_iff.mp hc).1
    rw [Nat.min_eq_left (by omega), Nat.min_eq_left (by omega), Nat.add_sub_cancel_left, cut_one hc]
theorem slice_nm {s : List Nat} (hz : s.length ≤ sizeLine) {a e : Nat} (h : e ≤ s.length) (ha : a ≤ e) : D.slice (.str s) (some (a : Nat)) (some (e : Nat)) = some (.str ((s.drop a).take (e - a))) := by
  show (if s.length ≤ sizeLine then some (D.str (cut s (some (a : Nat)) (some (e : Nat)))) else none) = _
  rw [if_pos hz]
  unfold cut
  rw [HT.sIx_nat, HT.sIx_nat, Nat.min_eq_left h, Nat.min_eq_left (show a ≤ s.length by omega)]

theorem sgn_lt {s : List Nat} (h : ∀ c ∈ s, c < 128) (e : Nat) : ∀ c ∈ sgn s e, c < 128 := by
  unfold sgn
  cases hc : s[e]? with
  | none => exact fun c hc => nomatch hc
  | some x => exact fun c hc' => by rw [List.mem_singleton.mp hc']; exact h x (List.mem_of_getElem? hc)
theorem sgn_eq {s : List Nat} {e c : Nat} : sgn s e = [c] ↔ s[e]? = some c := by
  unfold sgn
  cases hc : s[e]? with
  | none => simp
  | some x => simp
theorem eqv_ss {a b : List Nat} (ha : ∀ c ∈ a, c < 128) (hb : ∀ c ∈ b, c < 128) : (D.str a).eqv (.str b) = decide (a = b) := by
  have := eq_ss ha hb
  unfold D.eq? at this
  rw [good_str ha, good_str hb] at this
  exact Option.some.inj this
theorem in_two {g : List Nat} (h : ∀ c ∈ g, c < 128) : D.in? (.str g) [.str [40], .str [44]] = some (decide (g = [40]) || decide (g = [44])) := by
  rw [in_some (k := 1) (gd_str 1 h) (fun d hd => ?_) (by decide)]
  · simp only [List.any_cons, List.any_nil, Bool.or_false]
    rw [eqv_ss (by decide) h, eqv_ss (by decide) h]
    simp only [eq_comm]
  · rcases List.mem_cons.mp hd with rfl | hd
    · exact gd_str 1 (by decide)
    · rcases List.mem_cons.mp hd with rfl | hd
      · exact gd_str 1 (by decide)
      · cases hd
/-- what read_term gives -/
def ptD : Option (T × Nat) → EV.D
  | some (t, e) => .tup [t.D, .int (e : Nat)]
  | none => .non
end K49
end
section
set_option autoImplicit false
/-! P49u: read_term's loop. -/
namespace K49
open PySem EV

def rCond : E := .and_ (.bin (.cmp .isin) (.slLH (.var 0) (.var 2) (.bin .add (.var 2) (.lit (.int 1)))) (.tup (.cons (.lit (.str [40])) (.cons (.lit (.str [44])) .nil)))) (.bin (.cmp .lt) (.var 2) (.un .len (.var 0)))
def rBody : Ss := .cons (.if_ (.and_ (.bin (.cmp .eq) (.bin .idx (.var 0) (.var 2)) (.lit (.str [40]))) (.bin (.cmp .gt) (.un .len (.var 3)) (.lit (.int 1)))) (.cons (.ret (.lit .non)) .nil) .nil) (.cons (.asg (.nm 4) (.call false false 23 (.cons (.var 0) (.cons (.bin .add (.var 2) (.lit (.int 1))) .nil)))) (.cons (.if_ (.or_ (.un .isNone (.var 4)) (.bin (.cmp .gt) (.un .len (.var 3)) (.glob "MOST_PARTS" (.int 3)))) (.cons (.ret (.lit .non)) .nil) .nil) (.cons (.asg2 false false 3 2 (.bin .add (.var 3) (.tup (.cons (.bin .idx (.var 4) (.lit (.int 0))) .nil))) (.bin .idx (.var 4) (.lit (.int 1)))) .nil)))
/-- the test of the loop -/
theorem rCond_ev (L : Nat) {s : List Nat} (h : Txt s) {a e : Nat} {fd : D} {p : Option D} : evC (C L) rCond [some (.str s), some (.int (a : Nat)), some (.int (e : Nat)), some fd, p] = .ok (decide (s[e]? = some 40) || decide (s[e]? = some 44)) [some (.str s), some (.int (a : Nat)), some (.int (e : Nat)), some fd, p] := by
  have hz : s.length ≤ sizeLine := len_le (by have := h.1; omega)
  have hin := in_two (sgn_lt h.2 e)
  have q1 : decide (sgn s e = [40]) = decide (s[e]? = some 40) := by simp only [sgn_eq]
  have q2 : decide (sgn s e = [44]) = decide (s[e]? = some 44) := by simp only [sgn_eq]
  rw [q1, q2] at hin
  unfold rCond
  cases hb : (decide (s[e]? = some 40) || decide (s[e]? = some 44)) with
  | false =>
    rw [hb] at hin
    simp only [EV.v_lit, EV.v_var, EV.v_glob, EV.v_fn, EV.v_un, EV.v_bin, EV.v_slL, EV.v_slH, EV.v_slLH, EV.v_tup, EV.v_lst, EV.v_and, EV.v_or, EV.v_not, EV.v_ite, EV.v_chain, EV.v_call, EV.v_callF, EV.v_callIo, EV.v_callT, EV.v_callv, EV.v_nil, EV.v_cons, EV.v_seq, EV.v_enum, EV.v_zip, EV.v_rng1, EV.v_C, s_asg', s_asgO', s_asg2', s_expr', s_ret', s_retN', s_if', s_raise', ss_nil', ss_cons', r_ok, r_exc, r_opt, t_nm, cr_ok, cr_exc, cr_okS, List.getD_cons_zero, List.getD_cons_succ, List.set_cons_zero, List.set_cons_succ, B.pre, B.ev, Cm.ev, U.ev, D.truth, D.toInt, D.items, if_true, if_false, Bool.not_true, Bool.not_false, reduceCtorEq, Option.map_some, Option.bind_some, List.length_cons, List.length_nil, Nat.zero_add, Nat.reduceAdd, Nat.reduceLT, Nat.reduceLeDiff, Bool.and_true, Bool.true_and, decide_true, slice_sgn hz, hin]
  | true =>
    rw [hb] at hin
    have hl : e < s.length := by
      rw [Bool.or_eq_true, decide_eq_true_eq, decide_eq_true_eq] at hb
      rcases hb with hb | hb <;> exact (List.getElem?_eq_some_iff.mp hb).1
    have i1 : decide (((e : Nat) : Int) < ((s.length : Nat) : Int)) = true := decide_eq_true (by omega)
    simp only [EV.v_lit, EV.v_var, EV.v_glob, EV.v_fn, EV.v_un, EV.v_bin, EV.v_slL, EV.v_slH, EV.v_slLH, EV.v_tup, EV.v_lst, EV.v_and, EV.v_or, EV.v_not, EV.v_ite, EV.v_chain, EV.v_call, EV.v_callF, EV.v_callIo, EV.v_callT, EV.v_callv, EV.v_nil, EV.v_cons, EV.v_seq, EV.v_enum, EV.v_zip, EV.v_rng1, EV.v_C, s_asg', s_asgO', s_asg2', s_expr', s_ret', s_retN', s_if', s_raise', ss_nil', ss_cons', r_ok, r_exc, r_opt, t_nm, cr_ok, cr_exc, cr_okS, List.getD_cons_zero, List.getD_cons_succ, List.set_cons_zero, List.set_cons_succ, B.pre, B.ev, Cm.ev, U.ev, D.truth, D.toInt, D.items, if_true, if_false, Bool.not_true, Bool.not_false, reduceCtorEq, Option.map_some, Option.bind_some, List.length_cons, List.length_nil, Nat.zero_add, Nat.reduceAdd, Nat.reduceLT, Nat.reduceLeDiff, Bool.and_true, Bool.true_and, decide_true, slice_sgn hz, hin, hz, i1]

theorem rBody_paren (L : Nat) {s : List Nat} (h : Txt s) {a e : Nat} {ds : List D} {p : Option D} (he : s[e]? = some 40) (hd : 1 < ds.length) : evSs (C L) wf0 rBody [some (.str s), some (.int (a : Nat)), some (.int (e : Nat)), some (.tup ds), p] = .ok (.ret .non) [some (.str s), some (.int (a : Nat)), some (.int (e : Nat)), some (.tup ds), p] := by
  have hz : s.length ≤ sizeLine := len_le (by have := h.1; omega)
  have q : D.eq? (.str [40]) (.str [40]) = some true := by rw [eq_ss (by decide) (by decide)]; rfl
  have i1 : decide ((1 : Int) < ((ds.length : Nat) : Int)) = true := decide_eq_true (by omega)
  unfold rBody
  simp only [EV.v_lit, EV.v_var, EV.v_glob, EV.v_fn, EV.v_un, EV.v_bin, EV.v_slL, EV.v_slH, EV.v_slLH, EV.v_tup, EV.v_lst, EV.v_and, EV.v_or, EV.v_not, EV.v_ite, EV.v_chain, EV.v_call, EV.v_callF, EV.v_callIo, EV.v_callT, EV.v_callv, EV.v_nil, EV.v_cons, EV.v_seq, EV.v_enum, EV.v_zip, EV.v_rng1, EV.v_C, s_asg', s_asgO', s_asg2', s_expr', s_ret', s_retN', s_if', s_raise', ss_nil', ss_cons', r_ok, r_exc, r_opt, t_nm, cr_ok, cr_exc, cr_okS, List.getD_cons_zero, List.getD_cons_succ, List.set_cons_zero, List.set_cons_succ, B.pre, B.ev, Cm.ev, U.ev, D.truth, D.toInt, D.items, if_true, if_false, Bool.not_true, Bool.not_false, reduceCtorEq, Option.map_some, Option.bind_some, List.length_cons, List.length_nil, Nat.zero_add, Nat.reduceAdd, Nat.reduceLT, Nat.reduceLeDiff, Bool.and_true, Bool.true_and, decide_true, hz, atN he, q, i1]
/-- one turn: the part is read -/
theorem rBody_part (L : Nat) {s : List Nat} (h : Txt s) {a e c : Nat} {ds : List D} {p : Option D} {r : Option (T × Nat)} (he : s[e]? = some c) (hd : c = 40 → ds.length = 1) (hr : C L 23 [.str s, .int ((e + 1 : Nat) : Int)] = .ok (ptD r) (.str s)) (hds : ds.length ≤ 900) :
    evSs (C L) wf0 rBody [some (.str s), some (.int (a : Nat)), some (.int (e : Nat)), some (.tup ds), p] = match (generalizing := false) r with
      | none => .ok (.ret .non) [some (.str s), some (.int (a : Nat)), some (.int (e : Nat)), some (.tup ds), some .non]
      | some (t, e1) => if 3 < ds.length then .ok (.ret .non) [some (.str s), some (.int (a : Nat)), some (.int (e : Nat)), some (.tup ds), some (.tup [t.D, .int (e1 : Nat)])] else .ok .nx [some (.str s), some (.int (a : Nat)), some (.int (e1 : Nat)), some (.tup (ds ++ [t.D])), some (.tup [t.D, .int (e1 : Nat)])] := by
  have hz : s.length ≤ sizeLine := len_le (by have := h.1; omega)
  have hc := h.2 c (List.mem_of_getElem? he)
  have e1 : ((e : Nat) : Int) + 1 = ((e + 1 : Nat) : Int) := by omega
  have first : evS (C L) wf0 (.if_ (.and_ (.bin (.cmp .eq) (.bin .idx (.var 0) (.var 2)) (.lit (.str [40]))) (.bin (.cmp .gt) (.un .len (.var 3)) (.lit (.int 1)))) (.cons (.ret (.lit .non)) .nil) .nil) [some (.str s), some (.int (a : Nat)), some (.int (e : Nat)), some (.tup ds), p] = .ok .nx [some (.str s), some (.int (a : Nat)), some (.int (e : Nat)), some (.tup ds), p] := by
    by_cases c4 : c = 40
    · subst c4
      have q : D.eq? (.str [40]) (.str [40]) = some true := by rw [eq_ss (by decide) (by decide)]; rfl
      have i1 : decide ((1 : Int) < ((ds.length : Nat) : Int)) = false := decide_eq_false (by rw [hd rfl]; decide)
      simp only [EV.v_lit, EV.v_var, EV.v_glob, EV.v_fn, EV.v_un, EV.v_bin, EV.v_slL, EV.v_slH, EV.v_slLH, EV.v_tup, EV.v_lst, EV.v_and, EV.v_or, EV.v_not, EV.v_ite, EV.v_chain, EV.v_call, EV.v_callF, EV.v_callIo, EV.v_callT, EV.v_callv, EV.v_nil, EV.v_cons, EV.v_seq, EV.v_enum, EV.v_zip, EV.v_rng1, EV.v_C, s_asg', s_asgO', s_asg2', s_expr', s_ret', s_retN', s_if', s_raise', ss_nil', ss_cons', r_ok, r_exc, r_opt, t_nm, cr_ok, cr_exc, cr_okS, List.getD_cons_zero, List.getD_cons_succ, List.set_cons_zero, List.set_cons_succ, B.pre, B.ev, Cm.ev, U.ev, D.truth, D.toInt, D.items, if_true, if_false, Bool.not_true, Bool.not_false, reduceCtorEq, Option.map_some, Option.bind_some, List.length_cons, List.length_nil, Nat.zero_add, Nat.reduceAdd, Nat.reduceLT, Nat.reduceLeDiff, Bool.and_true, Bool.true_and, decide_true, hz, atN he, q, i1]
    · have q : D.eq? (.str [c]) (.str [40]) = some false := by
        rw [eq_ss (by intro x hx; rw [List.mem_singleton.mp hx]; exact hc) (by decide), decide_eq_false (by simpa using c4)]
      simp only [EV.v_lit, EV.v_var, EV.v_glob, EV.v_fn, EV.v_un, EV.v_bin, EV.v_slL, EV.v_slH, EV.v_slLH, EV.v_tup, EV.v_lst, EV.v_and, EV.v_or, EV.v_not, EV.v_ite, EV.v_chain, EV.v_call, EV.v_callF, EV.v_callIo, EV.v_callT, EV.v_callv, EV.v_nil, EV.v_cons, EV.v_seq, EV.v_enum, EV.v_zip, EV.v_rng1, EV.v_C, s_asg', s_asgO', s_asg2', s_expr', s_ret', s_retN', s_if', s_raise', ss_nil', ss_cons', r_ok, r_exc, r_opt, t_nm, cr_ok, cr_exc, cr_okS, List.getD_cons_zero, List.getD_cons_succ, List.set_cons_zero, List.set_cons_succ, B.pre, B.ev, Cm.ev, U.ev, D.truth, D.toInt, D.items, if_true, if_false, Bool.not_true, Bool.not_false, reduceCtorEq, Option.map_some, Option.bind_some, List.length_cons, List.length_nil, Nat.zero_add, Nat.reduceAdd, Nat.reduceLT, Nat.reduceLeDiff, Bool.and_true, Bool.true_and, decide_true, hz, atN he, q]
  unfold rBody
  rw [ss_cons', first]
  cases r with
  | none =>
    simp only [EV.v_lit, EV.v_var, EV.v_glob, EV.v_fn, EV.v_un, EV.v_bin, EV.v_slL, EV.v_slH, EV.v_slLH, EV.v_tup, EV.v_lst, EV.v_and, EV.v_or, EV.v_not, EV.v_ite, EV.v_chain, EV.v_call, EV.v_callF, EV.v_callIo, EV.v_callT, EV.v_callv, EV.v_nil, EV.v_cons, EV.v_seq, EV.v_enum, EV.v_zip, EV.v_rng1, EV.v_C, s_asg', s_asgO', s_asg2', s_expr', s_ret', s_retN', s_if', s_raise', ss_nil', ss_cons', r_ok, r_exc, r_opt, t_nm, cr_ok, cr_exc, cr_okS, List.getD_cons_zero, List.getD_cons_succ, List.set_cons_zero, List.set_cons_succ, B.pre, B.ev, Cm.ev, U.ev, D.truth, D.toInt, D.items, if_true, if_false, Bool.not_true, Bool.not_false, reduceCtorEq, Option.map_some, Option.bind_some, List.length_cons, List.length_nil, Nat.zero_add, Nat.reduceAdd, Nat.reduceLT, Nat.reduceLeDiff, Bool.and_true, Bool.true_and, decide_true, e1, hr, ptD]
  | some te =>
    obtain ⟨t, e2⟩ := te
    have hj : ds.length + 1 ≤ sizeLine := len_le (by omega)
    by_cases c3 : 3 < ds.length
    · have i1 : decide ((3 : Int) < ((ds.length : Nat) : Int)) = true := decide_eq_true (by omega)
      simp only [EV.v_lit, EV.v_var, EV.v_glob, EV.v_fn, EV.v_un, EV.v_bin, EV.v_slL, EV.v_slH, EV.v_slLH, EV.v_tup, EV.v_lst, EV.v_and, EV.v_or, EV.v_not, EV.v_ite, EV.v_chain, EV.v_call, EV.v_callF, EV.v_callIo, EV.v_callT, EV.v_callv, EV.v_nil, EV.v_cons, EV.v_seq, EV.v_enum, EV.v_zip, EV.v_rng1, EV.v_C, s_asg', s_asgO', s_asg2', s_expr', s_ret', s_retN', s_if', s_raise', ss_nil', ss_cons', r_ok, r_exc, r_opt, t_nm, cr_ok, cr_exc, cr_okS, List.getD_cons_zero, List.getD_cons_succ, List.set_cons_zero, List.set_cons_succ, B.pre, B.ev, Cm.ev, U.ev, D.truth, D.toInt, D.items, if_true, if_false, Bool.not_true, Bool.not_false, reduceCtorEq, Option.map_some, Option.bind_some, List.length_cons, List.length_nil, Nat.zero_add, Nat.reduceAdd, Nat.reduceLT, Nat.reduceLeDiff, Bool.and_true, Bool.true_and, decide_true, e1, hr, ptD, i1, c3]
    · have i1 : decide ((3 : Int) < ((ds.length : Nat) : Int)) = false := decide_eq_false (by omega)
      simp only [EV.v_lit, EV.v_var, EV.v_glob, EV.v_fn, EV.v_un, EV.v_bin, EV.v_slL, EV.v_slH, EV.v_slLH, EV.v_tup, EV.v_lst, EV.v_and, EV.v_or, EV.v_not, EV.v_ite, EV.v_chain, EV.v_call, EV.v_callF, EV.v_callIo, EV.v_callT, EV.v_callv, EV.v_nil, EV.v_cons, EV.v_seq, EV.v_enum, EV.v_zip, EV.v_rng1, EV.v_C, s_asg', s_asgO', s_asg2', s_expr', s_ret', s_retN', s_if', s_raise', ss_nil', ss_cons', r_ok, r_exc, r_opt, t_nm, cr_ok, cr_exc, cr_okS, List.getD_cons_zero, List.getD_cons_succ, List.set_cons_zero, List.set_cons_succ, B.pre, B.ev, Cm.ev, U.ev, D.truth, D.toInt, D.items, if_true, if_false, Bool.not_true, Bool.not_false, reduceCtorEq, Option.map_some, Option.bind_some, List.length_cons, List.length_nil, Nat.zero_add, Nat.reduceAdd, Nat.reduceLT, Nat.reduceLeDiff, Bool.and_true, Bool.true_and, decide_true, e1, hr, ptD, i1, c3, at0, at1, okO, if_pos hj]
end K49
end
section
set_option autoImplicit false
/-! P49v: read_term's loop, to its end. -/
namespace K49
open PySem EV

theorem while_no {c : EV.Env → R Bool} {f : EV.Env → R Fl} {n : Nat} {ρ ρ1 : EV.Env} (h : c ρ = .ok false ρ1) : whileGo c f (n + 1) ρ = .ok .nx ρ1 := by
  show (c ρ).bind _ = _
  rw [h]
  rfl
theorem while_nx {c : EV.Env → R Bool} {f : EV.Env → R Fl} {n : Nat} {ρ ρ1 ρ2 : EV.Env} (h : c ρ = .ok true ρ1) (h2 : f ρ1 = .ok .nx ρ2) : whileGo c f (n + 1) ρ = whileGo c f n ρ2 := by
  show (c ρ).bind _ = _
  rw [h]
  show (f ρ1).bind _ = _
  rw [h2]
  rfl
theorem while_ret {c : EV.Env → R Bool} {f : EV.Env → R Fl} {n : Nat} {ρ ρ1 ρ2 : EV.Env} {d : D} (h : c ρ = .ok true ρ1) (h2 : f ρ1 = .ok (.ret d) ρ2) : whileGo c f (n + 1) ρ = .ok (.ret d) ρ2 := by
  show (c ρ).bind _ = _
  rw [h]
  show (f ρ1).bind _ = _
  rw [h2]
  rfl
theorem map_snoc (f : T → D) (acc : List T) (t : T) (x : D) : (x :: acc.map f) ++ [f t] = x :: (acc ++ [t]).map f := by simp

theorem rLoop (L : Nat) {s nm : List Nat} (h : Txt s) {a : Nat} {rd : Nat → Option (T × Nat)} (hrd : ∀ b, a < b → b ≤ s.length → C L 23 [.str s, .int (b : Nat)] = .ok (ptD (rd b)) (.str s)) (hat : ∀ b t e, b ≤ s.length → rd b = some (t, e) → b < e ∧ e ≤ s.length) :
    ∀ (k : Nat) (acc : List T) (e : Nat) (p : Option D) (fuel : Nat), acc.length + k = 3 → k + 2 ≤ fuel → a ≤ e → (acc = [] ∧ s[e]? = some 40 ∨ acc ≠ [] ∧ s[e]? = some 44) →
    (∃ ρ : EV.Env, ρ.getD 0 none = some (.str s) ∧ pargs rd s nm k acc e = none ∧ whileGo (evC (C L) rCond) (evSs (C L) wf0 rBody) fuel [some (.str s), some (.int (a : Nat)), some (.int (e : Nat)), some (.tup (.str nm :: acc.map T.D)), p] = .ok (.ret .non) ρ) ∨
    (∃ (ps : List T) (e' : Nat) (p' : Option D), e' ≤ s.length ∧ ps.length ≤ 3 ∧ (pargs rd s nm k acc e = if s[e']? = some 41 then some (.mk nm ps, e' + 1) else none) ∧ whileGo (evC (C L) rCond) (evSs (C L) wf0 rBody) fuel [some (.str s), some (.int (a : Nat)), some (.int (e : Nat)), some (.tup (.str nm :: acc.map T.D)), p] = .ok .nx [some (.str s), some (.int (a : Nat)), some (.int (e' : Nat)), some (.tup (.str nm :: ps.map T.D)), p']) := by
  intro k
  induction k with
  | zero =>
    intro acc e p fuel hk hf hae hs
    obtain ⟨fuel, rfl⟩ : ∃ f, fuel = f + 1 := ⟨fuel - 1, by omega⟩
    obtain ⟨c, hc, h40⟩ : ∃ c, s[e]? = some c ∧ (c = 40 ∨ c = 44) := by
      rcases hs with ⟨_, hs⟩ | ⟨_, hs⟩
      · exact ⟨40, hs, .inl rfl⟩
      · exact ⟨44, hs, .inr rfl⟩
    have hcond := rCond_ev L h (a := a) (e := e) (fd := .tup (.str nm :: acc.map T.D)) (p := p)
    have hb : (decide (s[e]? = some 40) || decide (s[e]? = some 44)) = true := by
      rw [hc]
      rcases h40 with rfl | rfl <;> rfl
    rw [hb] at hcond
    have hl := (List.getElem?_eq_some_iff.mp hc).1
    have hdl : (D.str nm :: acc.map T.D).length = 4 := by rw [List.length_cons, List.length_map]; omega
    have hn : c = 40 → (D.str nm :: acc.map T.D).length = 1 := fun z => by
      rcases hs with ⟨hz, _⟩ | ⟨_, hs⟩
      · rw [hz] at hk; cases hk
      · rw [hs] at hc; cases hc; cases z
    have hbody := rBody_part L h (a := a) (p := p) hc hn (hrd (e + 1) (by omega) (by omega)) (by omega)
    left
    cases hr : rd (e + 1) with
    | none =>
      rw [hr] at hbody
      exact ⟨_, rfl, rfl, while_ret hcond hbody⟩
    | some te =>
      obtain ⟨t, e1⟩ := te
      rw [hr] at hbody
      simp only [hdl] at hbody
      exact ⟨_, rfl, rfl, while_ret hcond hbody⟩
  | succ k ih =>
    intro acc e p fuel hk hf hae hs
    obtain ⟨fuel, rfl⟩ : ∃ f, fuel = f + 1 := ⟨fuel - 1, by omega⟩
    obtain ⟨c, hc, h40⟩ : ∃ c, s[e]? = some c ∧ (c = 40 ∨ c = 44) := by
      rcases hs with ⟨_, hs⟩ | ⟨_, hs⟩
      · exact ⟨40, hs, .inl rfl⟩
      · exact ⟨44, hs, .inr rfl⟩
    have hcond := rCond_ev L h (a := a) (e := e) (fd := .tup (.str nm :: acc.map T.D)) (p := p)
    have hb : (decide (s[e]? = some 40) || decide (s[e]? = some 44)) = true := by
      rw [hc]
      rcases h40 with rfl | rfl <;> rfl
    rw [hb] at hcond
    have hl := (List.getElem?_eq_some_iff.mp hc).1
    have hdl : (D.str nm :: acc.map T.D).length = acc.length + 1 := by rw [List.length_cons, List.length_map]
    have hn : c = 40 → (D.str nm :: acc.map T.D).length = 1 := fun z => by
      rcases hs with ⟨hz, _⟩ | ⟨_, hs⟩
      · rw [hz]; rfl
      · rw [hs] at hc; cases hc; cases z
    have hbody := rBody_part L h (a := a) (p := p) hc hn (hrd (e + 1) (by omega) (by omega)) (by omega)
    cases hr : rd (e + 1) with
    | none =>
      rw [hr] at hbody
      left
      refine ⟨_, rfl, ?_, while_ret hcond hbody⟩
      unfold pargs
      rw [hr]
    | some te =>
      obtain ⟨t, e1⟩ := te
      obtain ⟨h1, h2⟩ := hat _ _ _ (by omega) hr
      rw [hr] at hbody
      simp only [hdl, if_neg (show ¬ 3 < acc.length + 1 by omega)] at hbody
      rw [map_snoc T.D acc t] at hbody
      rw [while_nx hcond hbody]
      have hp : pargs rd s nm (k + 1) acc e = if s[e1]? = some 41 then some (.mk nm (acc ++ [t]), e1 + 1) else if s[e1]? = some 44 then pargs rd s nm k (acc ++ [t]) e1 else none := by
        conv => lhs; unfold pargs
        rw [hr]
      rw [hp]
      have hcond2 := rCond_ev L h (a := a) (e := e1) (fd := .tup (.str nm :: (acc ++ [t]).map T.D)) (p := some (.tup [t.D, .int (e1 : Nat)]))
      by_cases c44 : s[e1]? = some 44
      · rw [if_neg (by rw [c44]; decide), if_pos c44]
        exact ih (acc ++ [t]) e1 _ fuel (by simp; omega) (by omega) (by omega) (.inr ⟨by simp, c44⟩)
      · obtain ⟨fuel, rfl⟩ : ∃ f, fuel = f + 1 := ⟨fuel - 1, by omega⟩
        rw [if_neg c44]
        by_cases c40 : s[e1]? = some 40
        · left
          have hbb : (decide (s[e1]? = some 40) || decide (s[e1]? = some 44)) = true := by rw [c40]; rfl
          rw [hbb] at hcond2
          refine ⟨_, rfl, ?_, while_ret hcond2 (rBody_paren L h c40 (by simp))⟩
          rw [if_neg (by rw [c40]; decide)]
        · right
          have hbb : (decide (s[e1]? = some 40) || decide (s[e1]? = some 44)) = false := by rw [decide_eq_false c40, decide_eq_false c44]; rfl
          rw [hbb] at hcond2
          exact ⟨acc ++ [t], e1, _, h2, by simp; omega, rfl, while_no hcond2⟩
end K49
end
section
set_option autoImplicit false
/-! P49w: read_term, whole_term. -/
namespace K49
open PySem EV

theorem sgq {s : List Nat} (h : Txt s) (e c : Nat) (hc : c < 128) : D.eq? (.str (sgn s e)) (.str [c]) = some (decide (s[e]? = some c)) := by
  rw [eq_ss (sgn_lt h.2 e) (fun x hx => by rw [List.mem_singleton.mp hx]; exact hc)]
  simp only [sgn_eq]
theorem read_term_ok {s : List Nat} (h : Txt s) : ∀ (f a n : Nat), a ≤ s.length → s.length - a < f → C (n + f + 1) 23 [.str s, .int (a : Nat)] = .ok (ptD (pt s f a)) (.str s)
  | 0, a, n, ha, hf => by omega
  | f + 1, a, n, ha, hf => by
    show C (n + f + 1 + 1) 23 _ = _
    rw [C_succ (di := d23) rfl]
    have hz : s.length ≤ sizeLine := len_le (by have := h.1; omega)
    have hne := name_end_ok (n + f) h a
    have hge := nameEnd_ge s a
    have hle := nameEnd_le ha
    unfold pt
    by_cases c1 : 0 < nameEnd s a - a ∧ nameEnd s a - a ≤ 8
    · rw [if_pos c1]
      have i1 : decide ((0 : Int) < ((nameEnd s a : Nat) : Int) - ((a : Nat) : Int)) = true := decide_eq_true (by omega)
      have i2 : decide (((nameEnd s a : Nat) : Int) - ((a : Nat) : Int) ≤ 8) = true := decide_eq_true (by omega)
      have hsl := slice_nm hz hle hge
      by_cases c2 : s[nameEnd s a]? = some 40
      · rw [if_pos c2]
        have q := sgq h (nameEnd s a) 40 (by decide)
        rw [decide_eq_true c2] at q
        have hl := (List.getElem?_eq_some_iff.mp c2).1
        rcases rLoop (n + f + 1) (nm := (s.drop a).take (nameEnd s a - a)) h (a := a) (rd := pt s f) (fun b hb hbl => read_term_ok h f b n hbl (by omega)) (fun b t e hb hp => ⟨(pt_ok s f b t e hb hp).lt, (pt_ok s f b t e hb hp).le⟩) 3 [] (nameEnd s a) none wf0 rfl (by unfold wf0; omega) hge (.inl ⟨rfl, c2⟩) with ⟨ρ, h0, hp, hw⟩ | ⟨ps, e', p', hle', hps, hp, hw⟩
        · rw [hp]
          have hw2 : evS (C (n + f + 1)) wf0 (.while_ rCond rBody) [some (.str s), some (.int (a : Nat)), some (.int (nameEnd s a : Nat)), some (.tup [.str ((s.drop a).take (nameEnd s a - a))]), none] = .ok (.ret .non) ρ := hw
          unfold rCond rBody at hw2
          have hr : runDef (C (n + f + 1)) wf0 d23 [.str s, .int (a : Nat)] = .ok .non ((ρ.getD 0 none).getD .non) := by
            refine run_of (ρ := ρ) rfl ?_
            show evSs (C (n + f + 1)) wf0 d23.body [some (.str s), some (.int (a : Nat)), none, none, none] = _
            unfold d23
            simp only [EV.v_lit, EV.v_var, EV.v_glob, EV.v_fn, EV.v_un, EV.v_bin, EV.v_slL, EV.v_slH, EV.v_slLH, EV.v_tup, EV.v_lst, EV.v_and, EV.v_or, EV.v_not, EV.v_ite, EV.v_chain, EV.v_call, EV.v_callF, EV.v_callIo, EV.v_callT, EV.v_callv, EV.v_nil, EV.v_cons, EV.v_seq, EV.v_enum, EV.v_zip, EV.v_rng1, EV.v_C, s_asg', s_asgO', s_asg2', s_expr', s_ret', s_retN', s_if', s_raise', ss_nil', ss_cons', r_ok, r_exc, r_opt, t_nm, cr_ok, cr_exc, cr_okS, List.getD_cons_zero, List.getD_cons_succ, List.set_cons_zero, List.set_cons_succ, B.pre, B.ev, Cm.ev, U.ev, D.truth, D.toInt, D.items, if_true, if_false, Bool.not_true, Bool.not_false, reduceCtorEq, Option.map_some, Option.bind_some, List.length_cons, List.length_nil, Nat.zero_add, Nat.reduceAdd, Nat.reduceLT, Nat.reduceLeDiff, Bool.and_true, Bool.true_and, decide_true, hne, i1, i2, hsl, slice_sgn hz, q, hw2]
          rw [hr, h0]
          rfl
        · rw [hp]
          have hw2 : evS (C (n + f + 1)) wf0 (.while_ rCond rBody) [some (.str s), some (.int (a : Nat)), some (.int (nameEnd s a : Nat)), some (.tup [.str ((s.drop a).take (nameEnd s a - a))]), none] = .ok .nx [some (.str s), some (.int (a : Nat)), some (.int (e' : Nat)), some (.tup (.str ((s.drop a).take (nameEnd s a - a)) :: ps.map T.D)), p'] := hw
          unfold rCond rBody at hw2
          have q2 := sgq h e' 41 (by decide)
          refine run_of (ρ := [some (.str s), some (.int (a : Nat)), some (.int (e' : Nat)), some (.tup (.str ((s.drop a).take (nameEnd s a - a)) :: ps.map T.D)), p']) rfl ?_
          show evSs (C (n + f + 1)) wf0 d23.body [some (.str s), some (.int (a : Nat)), none, none, none] = _
          unfold d23
          by_cases c3 : s[e']? = some 41
          · rw [decide_eq_true c3] at q2
            rw [if_pos c3]
            simp only [EV.v_lit, EV.v_var, EV.v_glob, EV.v_fn, EV.v_un, EV.v_bin, EV.v_slL, EV.v_slH, EV.v_slLH, EV.v_tup, EV.v_lst, EV.v_and, EV.v_or, EV.v_not, EV.v_ite, EV.v_chain, EV.v_call, EV.v_callF, EV.v_callIo, EV.v_callT, EV.v_callv, EV.v_nil, EV.v_cons, EV.v_seq, EV.v_enum, EV.v_zip, EV.v_rng1, EV.v_C, s_asg', s_asgO', s_asg2', s_expr', s_ret', s_retN', s_if', s_raise', ss_nil', ss_cons', r_ok, r_exc, r_opt, t_nm, cr_ok, cr_exc, cr_okS, List.getD_cons_zero, List.getD_cons_succ, List.set_cons_zero, List.set_cons_succ, B.pre, B.ev, Cm.ev, U.ev, D.truth, D.toInt, D.items, if_true, if_false, Bool.not_true, Bool.not_false, reduceCtorEq, Option.map_some, Option.bind_some, List.length_cons, List.length_nil, Nat.zero_add, Nat.reduceAdd, Nat.reduceLT, Nat.reduceLeDiff, Bool.and_true, Bool.true_and, decide_true, hne, i1, i2, hsl, slice_sgn hz, q, hw2, q2, ptD, T.D_mk]
            rfl
          · rw [decide_eq_false c3] at q2
            rw [if_neg c3]
            simp only [EV.v_lit, EV.v_var, EV.v_glob, EV.v_fn, EV.v_un, EV.v_bin, EV.v_slL, EV.v_slH, EV.v_slLH, EV.v_tup, EV.v_lst, EV.v_and, EV.v_or, EV.v_not, EV.v_ite, EV.v_chain, EV.v_call, EV.v_callF, EV.v_callIo, EV.v_callT, EV.v_callv, EV.v_nil, EV.v_cons, EV.v_seq, EV.v_enum, EV.v_zip, EV.v_rng1, EV.v_C, s_asg', s_asgO', s_asg2', s_expr', s_ret', s_retN', s_if', s_raise', ss_nil', ss_cons', r_ok, r_exc, r_opt, t_nm, cr_ok, cr_exc, cr_okS, List.getD_cons_zero, List.getD_cons_succ, List.set_cons_zero, List.set_cons_succ, B.pre, B.ev, Cm.ev, U.ev, D.truth, D.toInt, D.items, if_true, if_false, Bool.not_true, Bool.not_false, reduceCtorEq, Option.map_some, Option.bind_some, List.length_cons, List.length_nil, Nat.zero_add, Nat.reduceAdd, Nat.reduceLT, Nat.reduceLeDiff, Bool.and_true, Bool.true_and, decide_true, hne, i1, i2, hsl, slice_sgn hz, q, hw2, q2, ptD]
      · rw [if_neg c2]
        have q := sgq h (nameEnd s a) 40 (by decide)
        rw [decide_eq_false c2] at q
        refine run_of (ρ := [some (.str s), some (.int (a : Nat)), some (.int (nameEnd s a : Nat)), some (.tup [.str ((s.drop a).take (nameEnd s a - a))]), none]) rfl ?_
        show evSs (C (n + f + 1)) wf0 d23.body [some (.str s), some (.int (a : Nat)), none, none, none] = _
        unfold d23
        simp only [EV.v_lit, EV.v_var, EV.v_glob, EV.v_fn, EV.v_un, EV.v_bin, EV.v_slL, EV.v_slH, EV.v_slLH, EV.v_tup, EV.v_lst, EV.v_and, EV.v_or, EV.v_not, EV.v_ite, EV.v_chain, EV.v_call, EV.v_callF, EV.v_callIo, EV.v_callT, EV.v_callv, EV.v_nil, EV.v_cons, EV.v_seq, EV.v_enum, EV.v_zip, EV.v_rng1, EV.v_C, s_asg', s_asgO', s_asg2', s_expr', s_ret', s_retN', s_if', s_raise', ss_nil', ss_cons', r_ok, r_exc, r_opt, t_nm, cr_ok, cr_exc, cr_okS, List.getD_cons_zero, List.getD_cons_succ, List.set_cons_zero, List.set_cons_succ, B.pre, B.ev, Cm.ev, U.ev, D.truth, D.toInt, D.items, if_true, if_false, Bool.not_true, Bool.not_false, reduceCtorEq, Option.map_some, Option.bind_some, List.length_cons, List.length_nil, Nat.zero_add, Nat.reduceAdd, Nat.reduceLT, Nat.reduceLeDiff, Bool.and_true, Bool.true_and, decide_true, hne, i1, i2, hsl, slice_sgn hz, q, ptD, T.D_mk, List.map_nil]
    · rw [if_neg c1]
      refine run_of (ρ := [some (.str s), some (.int (a : Nat)), some (.int (nameEnd s a : Nat)), none, none]) rfl ?_
      show evSs (C (n + f + 1)) wf0 d23.body [some (.str s), some (.int (a : Nat)), none, none, none] = _
      unfold d23
      by_cases c2 : 0 < nameEnd s a - a
      · have i1 : decide ((0 : Int) < ((nameEnd s a : Nat) : Int) - ((a : Nat) : Int)) = true := decide_eq_true (by omega)
        have i2 : decide (((nameEnd s a : Nat) : Int) - ((a : Nat) : Int) ≤ 8) = false := decide_eq_false (by omega)
        simp only [EV.v_lit, EV.v_var, EV.v_glob, EV.v_fn, EV.v_un, EV.v_bin, EV.v_slL, EV.v_slH, EV.v_slLH, EV.v_tup, EV.v_lst, EV.v_and, EV.v_or, EV.v_not, EV.v_ite, EV.v_chain, EV.v_call, EV.v_callF, EV.v_callIo, EV.v_callT, EV.v_callv, EV.v_nil, EV.v_cons, EV.v_seq, EV.v_enum, EV.v_zip, EV.v_rng1, EV.v_C, s_asg', s_asgO', s_asg2', s_expr', s_ret', s_retN', s_if', s_raise', ss_nil', ss_cons', r_ok, r_exc, r_opt, t_nm, cr_ok, cr_exc, cr_okS, List.getD_cons_zero, List.getD_cons_succ, List.set_cons_zero, List.set_cons_succ, B.pre, B.ev, Cm.ev, U.ev, D.truth, D.toInt, D.items, if_true, if_false, Bool.not_true, Bool.not_false, reduceCtorEq, Option.map_some, Option.bind_some, List.length_cons, List.length_nil, Nat.zero_add, Nat.reduceAdd, Nat.reduceLT, Nat.reduceLeDiff, Bool.and_true, Bool.true_and, decide_true, hne, i1, i2, ptD]
      · have i1 : decide ((0 : Int) < ((nameEnd s a : Nat) : Int) - ((a : Nat) : Int)) = false := decide_eq_false (by omega)
        simp only [EV.v_lit, EV.v_var, EV.v_glob, EV.v_fn, EV.v_un, EV.v_bin, EV.v_slL, EV.v_slH, EV.v_slLH, EV.v_tup, EV.v_lst, EV.v_and, EV.v_or, EV.v_not, EV.v_ite, EV.v_chain, EV.v_call, EV.v_callF, EV.v_callIo, EV.v_callT, EV.v_callv, EV.v_nil, EV.v_cons, EV.v_seq, EV.v_enum, EV.v_zip, EV.v_rng1, EV.v_C, s_asg', s_asgO', s_asg2', s_expr', s_ret', s_retN', s_if', s_raise', ss_nil', ss_cons', r_ok, r_exc, r_opt, t_nm, cr_ok, cr_exc, cr_okS, List.getD_cons_zero, List.getD_cons_succ, List.set_cons_zero, List.set_cons_succ, B.pre, B.ev, Cm.ev, U.ev, D.truth, D.toInt, D.items, if_true, if_false, Bool.not_true, Bool.not_false, reduceCtorEq, Option.map_some, Option.bind_some, List.length_cons, List.length_nil, Nat.zero_add, Nat.reduceAdd, Nat.reduceLT, Nat.reduceLeDiff, Bool.and_true, Bool.true_and, decide_true, hne, i1, ptD]
/-- what whole_term gives -/
def wtD : Option T → EV.D
  | some t => t.D
  | none => .non
theorem whole_term_ok (n : Nat) {s : List Nat} (h : Txt s) : C (n + s.length + 3) 24 [.str s] = .ok (wtD (wholeT s)) (.str s) := by
  have hz : s.length ≤ sizeLine := len_le (by have := h.1; omega)
  have hr := read_term_ok h (s.length + 1) 0 n (Nat.zero_le _) (by omega)
  have hr : C (n + s.length + 2) 23 [.str s, .int 0] = .ok (ptD (pt s (s.length + 1) 0)) (.str s) := hr
  show C (n + s.length + 2 + 1) 24 _ = _
  rw [C_succ (di := d24) rfl]
  refine run_of (ρ := [some (.str s), some (ptD (pt s (s.length + 1) 0))]) rfl ?_
  show evSs (C (n + s.length + 2)) wf0 d24.body [some (.str s), none] = _
  unfold d24 wholeT
  cases hp : pt s (s.length + 1) 0 with
  | none =>
    rw [hp] at hr
    simp only [EV.v_lit, EV.v_var, EV.v_glob, EV.v_fn, EV.v_un, EV.v_bin, EV.v_slL, EV.v_slH, EV.v_slLH, EV.v_tup, EV.v_lst, EV.v_and, EV.v_or, EV.v_not, EV.v_ite, EV.v_chain, EV.v_call, EV.v_callF, EV.v_callIo, EV.v_callT, EV.v_callv, EV.v_nil, EV.v_cons, EV.v_seq, EV.v_enum, EV.v_zip, EV.v_rng1, EV.v_C, s_asg', s_asgO', s_asg2', s_expr', s_ret', s_retN', s_if', s_raise', ss_nil', ss_cons', r_ok, r_exc, r_opt, t_nm, cr_ok, cr_exc, cr_okS, List.getD_cons_zero, List.getD_cons_succ, List.set_cons_zero, List.set_cons_succ, B.pre, B.ev, Cm.ev, U.ev, D.truth, D.toInt, D.items, if_true, if_false, Bool.not_true, Bool.not_false, reduceCtorEq, Option.map_some, Option.bind_some, List.length_cons, List.length_nil, Nat.zero_add, Nat.reduceAdd, Nat.reduceLT, Nat.reduceLeDiff, Bool.and_true, Bool.true_and, decide_true, hr, ptD, wtD]
  | some te =>
    obtain ⟨t, e⟩ := te
    rw [hp] at hr
    by_cases c1 : e = s.length
    · have i1 : (((e : Nat) : Int) == ((s.length : Nat) : Int)) = true := by rw [c1]; exact beq_self_eq_true _
      simp only [EV.v_lit, EV.v_var, EV.v_glob, EV.v_fn, EV.v_un, EV.v_bin, EV.v_slL, EV.v_slH, EV.v_slLH, EV.v_tup, EV.v_lst, EV.v_and, EV.v_or, EV.v_not, EV.v_ite, EV.v_chain, EV.v_call, EV.v_callF, EV.v_callIo, EV.v_callT, EV.v_callv, EV.v_nil, EV.v_cons, EV.v_seq, EV.v_enum, EV.v_zip, EV.v_rng1, EV.v_C, s_asg', s_asgO', s_asg2', s_expr', s_ret', s_retN', s_if', s_raise', ss_nil', ss_cons', r_ok, r_exc, r_opt, t_nm, cr_ok, cr_exc, cr_okS, List.getD_cons_zero, List.getD_cons_succ, List.set_cons_zero, List.set_cons_succ, B.pre, B.ev, Cm.ev, U.ev, D.truth, D.toInt, D.items, if_true, if_false, Bool.not_true, Bool.not_false, reduceCtorEq, Option.map_some, Option.bind_some, List.length_cons, List.length_nil, Nat.zero_add, Nat.reduceAdd, Nat.reduceLT, Nat.reduceLeDiff, Bool.and_true, Bool.true_and, decide_true, hr, ptD, wtD, at0, at1, eq_ii, hz, i1, if_pos c1]
    · have i1 : (((e : Nat) : Int) == ((s.length : Nat) : Int)) = false := by rw [beq_eq_false_iff_ne]; omega
      simp only [EV.v_lit, EV.v_var, EV.v_glob, EV.v_fn, EV.v_un, EV.v_bin, EV.v_slL, EV.v_slH, EV.v_slLH, EV.v_tup, EV.v_lst, EV.v_and, EV.v_or, EV.v_not, EV.v_ite, EV.v_chain, EV.v_call, EV.v_callF, EV.v_callIo, EV.v_callT, EV.v_callv, EV.v_nil, EV.v_cons, EV.v_seq, EV.v_enum, EV.v_zip, EV.v_rng1, EV.v_C, s_asg', s_asgO', s_asg2', s_expr', s_ret', s_retN', s_if', s_raise', ss_nil', ss_cons', r_ok, r_exc, r_opt, t_nm, cr_ok, cr_exc, cr_okS, List.getD_cons_zero, List.getD_cons_succ, List.set_cons_zero, List.set_cons_succ, B.pre, B.ev, Cm.ev, U.ev, D.truth, D.toInt, D.items, if_true, if_false, Bool.not_true, Bool.not_false, reduceCtorEq, Option.map_some, Option.bind_some, List.length_cons, List.length_nil, Nat.zero_add, Nat.reduceAdd, Nat.reduceLT, Nat.reduceLeDiff, Bool.and_true, Bool.true_and, decide_true, hr, ptD, wtD, at0, at1, eq_ii, hz, i1, if_neg c1]
end K49
end
section
set_option autoImplicit false
/-! P49x: the law's own reader of terms. -/
namespace K49
open PySem EV

theorem law_small_ok (n : Nat) : C (n + 1) 43 [] = .ok (.str abc) .non := by
  rw [C_succ (di := d43) rfl]
  rfl
def nCond : E := .and_ (.bin (.cmp .lt) (.var 2) (.un .len (.var 0))) (.and_ (.bin (.cmp .isin) (.bin .idx (.var 0) (.var 2)) (.call false false 43 .nil)) (.bin (.cmp .lt) (.var 2) (.bin .add (.var 1) (.lit (.int 9)))))
def nBody : Ss := .cons (.asg (.nm 2) (.bin .add (.var 2) (.lit (.int 1)))) .nil
theorem nLoop (n : Nat) {s : List Nat} (hz : s.length ≤ sizeLine) (k : Nat) : ∀ (m fuel a : Nat), s.length - a ≤ m → m < fuel → k ≤ a → a ≤ k + 9 →
    whileGo (evC (C (n + 1)) nCond) (evSs (C (n + 1)) wf0 nBody) fuel [some (.str s), some (.int (k : Nat)), some (.int (a : Nat)), none, none, none] = .ok .nx [some (.str s), some (.int (k : Nat)), some (.int (min (nameEnd s a) (k + 9) : Nat)), none, none, none] := by
  intro m
  induction m with
  | zero =>
    intro fuel a h1 h2 h3 h4
    obtain ⟨fuel, rfl⟩ : ∃ f, fuel = f + 1 := ⟨fuel - 1, by omega⟩
    have i1 : decide (((a : Nat) : Int) < ((s.length : Nat) : Int)) = false := decide_eq_false (by omega)
    rw [nameEnd_stop (by omega), Nat.min_eq_left h4]
    refine while_no ?_
    unfold nCond
    simp only [EV.v_lit, EV.v_var, EV.v_glob, EV.v_fn, EV.v_un, EV.v_bin, EV.v_slL, EV.v_slH, EV.v_slLH, EV.v_tup, EV.v_lst, EV.v_and, EV.v_or, EV.v_not, EV.v_ite, EV.v_chain, EV.v_call, EV.v_callF, EV.v_callIo, EV.v_callT, EV.v_callv, EV.v_nil, EV.v_cons, EV.v_seq, EV.v_enum, EV.v_zip, EV.v_rng1, EV.v_C, s_asg', s_asgO', s_asg2', s_expr', s_ret', s_retN', s_if', s_raise', ss_nil', ss_cons', r_ok, r_exc, r_opt, t_nm, cr_ok, cr_exc, cr_okS, List.getD_cons_zero, List.getD_cons_succ, List.set_cons_zero, List.set_cons_succ, B.pre, B.ev, Cm.ev, U.ev, D.truth, D.toInt, D.items, if_true, if_false, Bool.not_true, Bool.not_false, reduceCtorEq, Option.map_some, Option.bind_some, List.length_cons, List.length_nil, Nat.zero_add, Nat.reduceAdd, Nat.reduceLT, Nat.reduceLeDiff, Bool.and_true, Bool.true_and, decide_true, hz, i1]
  | succ m ih =>
    intro fuel a h1 h2 h3 h4
    obtain ⟨fuel, rfl⟩ : ∃ f, fuel = f + 1 := ⟨fuel - 1, by omega⟩
    by_cases hl : a < s.length
    · have i1 : decide (((a : Nat) : Int) < ((s.length : Nat) : Int)) = true := decide_eq_true (by omega)
      have hc : s[a]? = some s[a] := List.getElem?_eq_getElem hl
      cases hs : small s[a] with
      | false =>
        rw [nameEnd_no hc hs, Nat.min_eq_left h4]
        refine while_no ?_
        unfold nCond
        simp only [EV.v_lit, EV.v_var, EV.v_glob, EV.v_fn, EV.v_un, EV.v_bin, EV.v_slL, EV.v_slH, EV.v_slLH, EV.v_tup, EV.v_lst, EV.v_and, EV.v_or, EV.v_not, EV.v_ite, EV.v_chain, EV.v_call, EV.v_callF, EV.v_callIo, EV.v_callT, EV.v_callv, EV.v_nil, EV.v_cons, EV.v_seq, EV.v_enum, EV.v_zip, EV.v_rng1, EV.v_C, s_asg', s_asgO', s_asg2', s_expr', s_ret', s_retN', s_if', s_raise', ss_nil', ss_cons', r_ok, r_exc, r_opt, t_nm, cr_ok, cr_exc, cr_okS, List.getD_cons_zero, List.getD_cons_succ, List.set_cons_zero, List.set_cons_succ, B.pre, B.ev, Cm.ev, U.ev, D.truth, D.toInt, D.items, if_true, if_false, Bool.not_true, Bool.not_false, reduceCtorEq, Option.map_some, Option.bind_some, List.length_cons, List.length_nil, Nat.zero_add, Nat.reduceAdd, Nat.reduceLT, Nat.reduceLeDiff, Bool.and_true, Bool.true_and, decide_true, hz, i1, atN hc, law_small_ok, mem_abc, hs]
      | true =>
        by_cases h9 : a = k + 9
        · have i2 : decide (((a : Nat) : Int) < ((k : Nat) : Int) + 9) = false := decide_eq_false (by omega)
          have := nameEnd_ge s a
          have e1 : min (nameEnd s a) (k + 9) = a := by omega
          rw [e1]
          refine while_no ?_
          unfold nCond
          simp only [EV.v_lit, EV.v_var, EV.v_glob, EV.v_fn, EV.v_un, EV.v_bin, EV.v_slL, EV.v_slH, EV.v_slLH, EV.v_tup, EV.v_lst, EV.v_and, EV.v_or, EV.v_not, EV.v_ite, EV.v_chain, EV.v_call, EV.v_callF, EV.v_callIo, EV.v_callT, EV.v_callv, EV.v_nil, EV.v_cons, EV.v_seq, EV.v_enum, EV.v_zip, EV.v_rng1, EV.v_C, s_asg', s_asgO', s_asg2', s_expr', s_ret', s_retN', s_if', s_raise', ss_nil', ss_cons', r_ok, r_exc, r_opt, t_nm, cr_ok, cr_exc, cr_okS, List.getD_cons_zero, List.getD_cons_succ, List.set_cons_zero, List.set_cons_succ, B.pre, B.ev, Cm.ev, U.ev, D.truth, D.toInt, D.items, if_true, if_false, Bool.not_true, Bool.not_false, reduceCtorEq, Option.map_some, Option.bind_some, List.length_cons, List.length_nil, Nat.zero_add, Nat.reduceAdd, Nat.reduceLT, Nat.reduceLeDiff, Bool.and_true, Bool.true_and, decide_true, hz, i1, i2, atN hc, law_small_ok, mem_abc, hs]
        · have i2 : decide (((a : Nat) : Int) < ((k : Nat) : Int) + 9) = true := decide_eq_true (by omega)
          rw [nameEnd_yes hc hs]
          rw [while_nx (ρ1 := [some (.str s), some (.int (k : Nat)), some (.int (a : Nat)), none, none, none]) (ρ2 := [some (.str s), some (.int (k : Nat)), some (.int ((a + 1 : Nat) : Int)), none, none, none]) ?_ ?_]
          · exact ih fuel (a + 1) (by omega) (by omega) (by omega) (by omega)
          · unfold nCond
            simp only [EV.v_lit, EV.v_var, EV.v_glob, EV.v_fn, EV.v_un, EV.v_bin, EV.v_slL, EV.v_slH, EV.v_slLH, EV.v_tup, EV.v_lst, EV.v_and, EV.v_or, EV.v_not, EV.v_ite, EV.v_chain, EV.v_call, EV.v_callF, EV.v_callIo, EV.v_callT, EV.v_callv, EV.v_nil, EV.v_cons, EV.v_seq, EV.v_enum, EV.v_zip, EV.v_rng1, EV.v_C, s_asg', s_asgO', s_asg2', s_expr', s_ret', s_retN', s_if', s_raise', ss_nil', ss_cons', r_ok, r_exc, r_opt, t_nm, cr_ok, cr_exc, cr_okS, List.getD_cons_zero, List.getD_cons_succ, List.set_cons_zero, List.set_cons_succ, B.pre, B.ev, Cm.ev, U.ev, D.truth, D.toInt, D.items, if_true, if_false, Bool.not_true, Bool.not_false, reduceCtorEq, Option.map_some, Option.bind_some, List.length_cons, List.length_nil, Nat.zero_add, Nat.reduceAdd, Nat.reduceLT, Nat.reduceLeDiff, Bool.and_true, Bool.true_and, decide_true, hz, i1, i2, atN hc, law_small_ok, mem_abc, hs]
          · unfold nBody
            simp only [EV.v_lit, EV.v_var, EV.v_glob, EV.v_fn, EV.v_un, EV.v_bin, EV.v_slL, EV.v_slH, EV.v_slLH, EV.v_tup, EV.v_lst, EV.v_and, EV.v_or, EV.v_not, EV.v_ite, EV.v_chain, EV.v_call, EV.v_callF, EV.v_callIo, EV.v_callT, EV.v_callv, EV.v_nil, EV.v_cons, EV.v_seq, EV.v_enum, EV.v_zip, EV.v_rng1, EV.v_C, s_asg', s_asgO', s_asg2', s_expr', s_ret', s_retN', s_if', s_raise', ss_nil', ss_cons', r_ok, r_exc, r_opt, t_nm, cr_ok, cr_exc, cr_okS, List.getD_cons_zero, List.getD_cons_succ, List.set_cons_zero, List.set_cons_succ, B.pre, B.ev, Cm.ev, U.ev, D.truth, D.toInt, D.items, if_true, if_false, Bool.not_true, Bool.not_false, reduceCtorEq, Option.map_some, Option.bind_some, List.length_cons, List.length_nil, Nat.zero_add, Nat.reduceAdd, Nat.reduceLT, Nat.reduceLeDiff, Bool.and_true, Bool.true_and, decide_true]
            rfl
    · have i1 : decide (((a : Nat) : Int) < ((s.length : Nat) : Int)) = false := decide_eq_false (by omega)
      rw [nameEnd_stop (by omega), Nat.min_eq_left h4]
      refine while_no ?_
      unfold nCond
      simp only [EV.v_lit, EV.v_var, EV.v_glob, EV.v_fn, EV.v_un, EV.v_bin, EV.v_slL, EV.v_slH, EV.v_slLH, EV.v_tup, EV.v_lst, EV.v_and, EV.v_or, EV.v_not, EV.v_ite, EV.v_chain, EV.v_call, EV.v_callF, EV.v_callIo, EV.v_callT, EV.v_callv, EV.v_nil, EV.v_cons, EV.v_seq, EV.v_enum, EV.v_zip, EV.v_rng1, EV.v_C, s_asg', s_asgO', s_asg2', s_expr', s_ret', s_retN', s_if', s_raise', ss_nil', ss_cons', r_ok, r_exc, r_opt, t_nm, cr_ok, cr_exc, cr_okS, List.getD_cons_zero, List.getD_cons_succ, List.set_cons_zero, List.set_cons_succ, B.pre, B.ev, Cm.ev, U.ev, D.truth, D.toInt, D.items, if_true, if_false, Bool.not_true, Bool.not_false, reduceCtorEq, Option.map_some, Option.bind_some, List.length_cons, List.length_nil, Nat.zero_add, Nat.reduceAdd, Nat.reduceLT, Nat.reduceLeDiff, Bool.and_true, Bool.true_and, decide_true, hz, i1]
/-- what _law_term_in gives -/
def lnD (j : Int) : Option (T × Nat) → EV.D
  | some (t, e) => .tup [.lst [t.D], .int (e : Nat)]
  | none => .tup [.non, .int j]
def fBody : Ss := (.cons (.asg (.tp (.cons (.nm 5) (.cons (.nm 2) .nil))) (.call false false 44 (.cons (.var 0) (.cons (.bin .add (.var 2) (.lit (.int 1))) .nil)))) (.cons (.if_ (.or_ (.un .isNone (.var 5)) (.bin (.cmp .ge) (.var 2) (.un .len (.var 0)))) (.cons (.ret (.tup (.cons (.lit .non) (.cons (.var 2) .nil)))) .nil) .nil) (.cons (.asg (.nm 3) (.bin .add (.var 3) (.tup (.cons (.bin .idx (.var 5) (.lit (.int 0))) .nil)))) (.cons (.if_ (.bin (.cmp .eq) (.bin .idx (.var 0) (.var 2)) (.lit (.str [41]))) (.cons (.ret (.ite (.bin (.cmp .lt) (.un .len (.var 3)) (.lit (.int 5))) (.tup (.cons (.lst (.cons (.var 3) .nil)) (.cons (.bin .add (.var 2) (.lit (.int 1))) .nil))) (.tup (.cons (.lit .non) (.cons (.var 2) .nil))))) .nil) .nil) (.cons (.if_ (.bin (.cmp .ne) (.bin .idx (.var 0) (.var 2)) (.lit (.str [44]))) (.cons (.ret (.tup (.cons (.lit .non) (.cons (.var 2) .nil)))) .nil) .nil) .nil)))))
def fTurn (L : Nat) : EV.D → EV.Env → R Fl := fun x ρ => (R.opt ρ ((Tg.nm 4).bind x ρ)).bind fun ρ1 _ => evSs (C L) wf0 fBody ρ1
theorem for_ret {f : D → EV.Env → R Fl} {x : D} {xs : List D} {ρ ρ1 : EV.Env} {d : D} (h : f x ρ = .ok (.ret d) ρ1) : forGo f (x :: xs) ρ = .ok (.ret d) ρ1 := by
  show (f x ρ).bind _ = _
  rw [h]
  rfl
theorem for_nx {f : D → EV.Env → R Fl} {x : D} {xs : List D} {ρ ρ1 : EV.Env} (h : f x ρ = .ok .nx ρ1) : forGo f (x :: xs) ρ = forGo f xs ρ1 := by
  show (f x ρ).bind _ = _
  rw [h]
  rfl
theorem t_tp2 {i j : Nat} {d e : D} {ρ : EV.Env} (hi : i < ρ.length) (hj : j < ρ.length) : (Tg.tp (.cons (.nm i) (.cons (.nm j) .nil))).bind (.tup [d, e]) ρ = some ((ρ.set i (some d)).set j (some e)) := by
  show (if i < ρ.length then some (ρ.set i (some d)) else none).bind _ = _
  rw [if_pos hi]
  show ((if j < (ρ.set i (some d)).length then some ((ρ.set i (some d)).set j (some e)) else none).bind fun ρ => some ρ) = _
  rw [if_pos (by rw [List.length_set]; exact hj)]
  rfl
/-- one turn of the law's loop -/
theorem fTurn_ev (L : Nat) {s : List Nat} (h : Txt s) {a e : Nat} {x : EV.D} {ds : List D} {o4 o5 : Option D} {r : Option (T × Nat)} {j : Int} (hr : C L 44 [.str s, .int ((e + 1 : Nat) : Int)] = .ok (lnD j r) (.str s)) (hds : ds.length ≤ 900) :
    fTurn L x [some (.str s), some (.int (a : Nat)), some (.int (e : Nat)), some (.tup ds), o4, o5] = match (generalizing := false) r with
      | none => .ok (.ret (.tup [.non, .int j])) [some (.str s), some (.int (a : Nat)), some (.int j), some (.tup ds), some x, some .non]
      | some (t, e1) => match (generalizing := false) s[e1]? with
        | none => .ok (.ret (.tup [.non, .int (e1 : Nat)])) [some (.str s), some (.int (a : Nat)), some (.int (e1 : Nat)), some (.tup ds), some x, some (.lst [t.D])]
        | some c => if c = 41 then (if ds.length < 4 then .ok (.ret (.tup [.lst [.tup (ds ++ [t.D])], .int ((e1 + 1 : Nat) : Int)])) [some (.str s), some (.int (a : Nat)), some (.int (e1 : Nat)), some (.tup (ds ++ [t.D])), some x, some (.lst [t.D])]
              else .ok (.ret (.tup [.non, .int (e1 : Nat)])) [some (.str s), some (.int (a : Nat)), some (.int (e1 : Nat)), some (.tup (ds ++ [t.D])), some x, some (.lst [t.D])])
            else if c = 44 then .ok .nx [some (.str s), some (.int (a : Nat)), some (.int (e1 : Nat)), some (.tup (ds ++ [t.D])), some x, some (.lst [t.D])]
            else .ok (.ret (.tup [.non, .int (e1 : Nat)])) [some (.str s), some (.int (a : Nat)), some (.int (e1 : Nat)), some (.tup (ds ++ [t.D])), some x, some (.lst [t.D])] := by
  have hz : s.length ≤ sizeLine := len_le (by have := h.1; omega)
  have e1' : ((e : Nat) : Int) + 1 = ((e + 1 : Nat) : Int) := by omega
  unfold fTurn fBody
  cases r with
  | none =>
    have ht := t_tp2 (i := 5) (j := 2) (d := .non) (e := .int j) (ρ := [some (.str s), some (.int (a : Nat)), some (.int (e : Nat)), some (.tup ds), some x, o5]) (by simp) (by simp)
    simp only [EV.v_lit, EV.v_var, EV.v_glob, EV.v_fn, EV.v_un, EV.v_bin, EV.v_slL, EV.v_slH, EV.v_slLH, EV.v_tup, EV.v_lst, EV.v_and, EV.v_or, EV.v_not, EV.v_ite, EV.v_chain, EV.v_call, EV.v_callF, EV.v_callIo, EV.v_callT, EV.v_callv, EV.v_nil, EV.v_cons, EV.v_seq, EV.v_enum, EV.v_zip, EV.v_rng1, EV.v_C, s_asg', s_asgO', s_asg2', s_expr', s_ret', s_retN', s_if', s_raise', ss_nil', ss_cons', r_ok, r_exc, r_opt, t_nm, cr_ok, cr_exc, cr_okS, List.getD_cons_zero, List.getD_cons_succ, List.set_cons_zero, List.set_cons_succ, B.pre, B.ev, Cm.ev, U.ev, D.truth, D.toInt, D.items, if_true, if_false, Bool.not_true, Bool.not_false, reduceCtorEq, Option.map_some, Option.bind_some, List.length_cons, List.length_nil, Nat.zero_add, Nat.reduceAdd, Nat.reduceLT, Nat.reduceLeDiff, Bool.and_true, Bool.true_and, decide_true, e1', hr, lnD, ht]
  | some te =>
    obtain ⟨t, e2⟩ := te
    have ht := t_tp2 (i := 5) (j := 2) (d := .lst [t.D]) (e := .int (e2 : Nat)) (ρ := [some (.str s), some (.int (a : Nat)), some (.int (e : Nat)), some (.tup ds), some x, o5]) (by simp) (by simp)
    have hj : ds.length + 1 ≤ sizeLine := len_le (by omega)
    have ec : ((e2 + 1 : Nat) : Int) = ((e2 : Nat) : Int) + 1 := by omega
    have hd1 : (ds ++ [t.D]).length = ds.length + 1 := by simp
    cases hc : s[e2]? with
    | none =>
      have := List.getElem?_eq_none_iff.mp hc
      have i1 : decide (((s.length : Nat) : Int) ≤ ((e2 : Nat) : Int)) = true := decide_eq_true (by omega)
      simp only [EV.v_lit, EV.v_var, EV.v_glob, EV.v_fn, EV.v_un, EV.v_bin, EV.v_slL, EV.v_slH, EV.v_slLH, EV.v_tup, EV.v_lst, EV.v_and, EV.v_or, EV.v_not, EV.v_ite, EV.v_chain, EV.v_call, EV.v_callF, EV.v_callIo, EV.v_callT, EV.v_callv, EV.v_nil, EV.v_cons, EV.v_seq, EV.v_enum, EV.v_zip, EV.v_rng1, EV.v_C, s_asg', s_asgO', s_asg2', s_expr', s_ret', s_retN', s_if', s_raise', ss_nil', ss_cons', r_ok, r_exc, r_opt, t_nm, cr_ok, cr_exc, cr_okS, List.getD_cons_zero, List.getD_cons_succ, List.set_cons_zero, List.set_cons_succ, B.pre, B.ev, Cm.ev, U.ev, D.truth, D.toInt, D.items, if_true, if_false, Bool.not_true, Bool.not_false, reduceCtorEq, Option.map_some, Option.bind_some, List.length_cons, List.length_nil, Nat.zero_add, Nat.reduceAdd, Nat.reduceLT, Nat.reduceLeDiff, Bool.and_true, Bool.true_and, decide_true, e1', hr, lnD, ht, hz, i1, hc]
    | some c =>
      have hl := (List.getElem?_eq_some_iff.mp hc).1
      have hc128 := h.2 c (List.mem_of_getElem? hc)
      have i1 : decide (((s.length : Nat) : Int) ≤ ((e2 : Nat) : Int)) = false := decide_eq_false (by omega)
      have qq : ∀ b, b < 128 → D.eq? (.str [c]) (.str [b]) = some (decide (c = b)) := fun b hb => by
        rw [eq_ss (by intro x hx; rw [List.mem_singleton.mp hx]; exact hc128) (by intro x hx; rw [List.mem_singleton.mp hx]; exact hb)]
        simp
      by_cases c41 : c = 41
      · have q1 := qq 41 (by decide)
        rw [decide_eq_true c41] at q1
        by_cases c4 : ds.length < 4
        · have i2 : decide (((ds.length + 1 : Nat) : Int) < 5) = true := decide_eq_true (by omega)
          simp only [EV.v_lit, EV.v_var, EV.v_glob, EV.v_fn, EV.v_un, EV.v_bin, EV.v_slL, EV.v_slH, EV.v_slLH, EV.v_tup, EV.v_lst, EV.v_and, EV.v_or, EV.v_not, EV.v_ite, EV.v_chain, EV.v_call, EV.v_callF, EV.v_callIo, EV.v_callT, EV.v_callv, EV.v_nil, EV.v_cons, EV.v_seq, EV.v_enum, EV.v_zip, EV.v_rng1, EV.v_C, s_asg', s_asgO', s_asg2', s_expr', s_ret', s_retN', s_if', s_raise', ss_nil', ss_cons', r_ok, r_exc, r_opt, t_nm, cr_ok, cr_exc, cr_okS, List.getD_cons_zero, List.getD_cons_succ, List.set_cons_zero, List.set_cons_succ, B.pre, B.ev, Cm.ev, U.ev, D.truth, D.toInt, D.items, if_true, if_false, Bool.not_true, Bool.not_false, reduceCtorEq, Option.map_some, Option.bind_some, List.length_cons, List.length_nil, Nat.zero_add, Nat.reduceAdd, Nat.reduceLT, Nat.reduceLeDiff, Bool.and_true, Bool.true_and, decide_true, e1', hr, lnD, ht, hz, i1, if_pos hj, at0, atN hc, q1, hd1, i2, if_pos c41, if_pos c4, hc, ec]
        · have i2 : decide (((ds.length + 1 : Nat) : Int) < 5) = false := decide_eq_false (by omega)
          simp only [EV.v_lit, EV.v_var, EV.v_glob, EV.v_fn, EV.v_un, EV.v_bin, EV.v_slL, EV.v_slH, EV.v_slLH, EV.v_tup, EV.v_lst, EV.v_and, EV.v_or, EV.v_not, EV.v_ite, EV.v_chain, EV.v_call, EV.v_callF, EV.v_callIo, EV.v_callT, EV.v_callv, EV.v_nil, EV.v_cons, EV.v_seq, EV.v_enum, EV.v_zip, EV.v_rng1, EV.v_C, s_asg', s_asgO', s_asg2', s_expr', s_ret', s_retN', s_if', s_raise', ss_nil', ss_cons', r_ok, r_exc, r_opt, t_nm, cr_ok, cr_exc, cr_okS, List.getD_cons_zero, List.getD_cons_succ, List.set_cons_zero, List.set_cons_succ, B.pre, B.ev, Cm.ev, U.ev, D.truth, D.toInt, D.items, if_true, if_false, Bool.not_true, Bool.not_false, reduceCtorEq, Option.map_some, Option.bind_some, List.length_cons, List.length_nil, Nat.zero_add, Nat.reduceAdd, Nat.reduceLT, Nat.reduceLeDiff, Bool.and_true, Bool.true_and, decide_true, e1', hr, lnD, ht, hz, i1, if_pos hj, at0, atN hc, q1, hd1, i2, if_pos c41, if_neg c4, hc, ec]
      · have q1 := qq 41 (by decide)
        rw [decide_eq_false c41] at q1
        have q2 := qq 44 (by decide)
        by_cases c44 : c = 44
        · rw [decide_eq_true c44] at q2
          simp only [EV.v_lit, EV.v_var, EV.v_glob, EV.v_fn, EV.v_un, EV.v_bin, EV.v_slL, EV.v_slH, EV.v_slLH, EV.v_tup, EV.v_lst, EV.v_and, EV.v_or, EV.v_not, EV.v_ite, EV.v_chain, EV.v_call, EV.v_callF, EV.v_callIo, EV.v_callT, EV.v_callv, EV.v_nil, EV.v_cons, EV.v_seq, EV.v_enum, EV.v_zip, EV.v_rng1, EV.v_C, s_asg', s_asgO', s_asg2', s_expr', s_ret', s_retN', s_if', s_raise', ss_nil', ss_cons', r_ok, r_exc, r_opt, t_nm, cr_ok, cr_exc, cr_okS, List.getD_cons_zero, List.getD_cons_succ, List.set_cons_zero, List.set_cons_succ, B.pre, B.ev, Cm.ev, U.ev, D.truth, D.toInt, D.items, if_true, if_false, Bool.not_true, Bool.not_false, reduceCtorEq, Option.map_some, Option.bind_some, List.length_cons, List.length_nil, Nat.zero_add, Nat.reduceAdd, Nat.reduceLT, Nat.reduceLeDiff, Bool.and_true, Bool.true_and, decide_true, e1', hr, lnD, ht, hz, i1, if_pos hj, at0, atN hc, q1, q2, if_neg c41, if_pos c44, hc]
        · rw [decide_eq_false c44] at q2
          simp only [EV.v_lit, EV.v_var, EV.v_glob, EV.v_fn, EV.v_un, EV.v_bin, EV.v_slL, EV.v_slH, EV.v_slLH, EV.v_tup, EV.v_lst, EV.v_and, EV.v_or, EV.v_not, EV.v_ite, EV.v_chain, EV.v_call, EV.v_callF, EV.v_callIo, EV.v_callT, EV.v_callv, EV.v_nil, EV.v_cons, EV.v_seq, EV.v_enum, EV.v_zip, EV.v_rng1, EV.v_C, s_asg', s_asgO', s_asg2', s_expr', s_ret', s_retN', s_if', s_raise', ss_nil', ss_cons', r_ok, r_exc, r_opt, t_nm, cr_ok, cr_exc, cr_okS, List.getD_cons_zero, List.getD_cons_succ, List.set_cons_zero, List.set_cons_succ, B.pre, B.ev, Cm.ev, U.ev, D.truth, D.toInt, D.items, if_true, if_false, Bool.not_true, Bool.not_false, reduceCtorEq, Option.map_some, Option.bind_some, List.length_cons, List.length_nil, Nat.zero_add, Nat.reduceAdd, Nat.reduceLT, Nat.reduceLeDiff, Bool.and_true, Bool.true_and, decide_true, e1', hr, lnD, ht, hz, i1, if_pos hj, at0, atN hc, q1, q2, if_neg c41, if_neg c44, hc]
end K49
end
section
set_option autoImplicit false
/-! P49y: the law's own reader of terms, to its end. -/
namespace K49
open PySem EV

theorem fLoop (L : Nat) {s nm : List Nat} (h : Txt s) {a : Nat} {rd : Nat → Option (T × Nat)} (hrd : ∀ b, a < b → b ≤ s.length → ∃ j : Int, C L 44 [.str s, .int (b : Nat)] = .ok (lnD j (rd b)) (.str s)) (hat : ∀ b t e, b ≤ s.length → rd b = some (t, e) → b < e ∧ e ≤ s.length) :
    ∀ (k : Nat) (acc : List T) (e : Nat) (o4 o5 : Option D) (xs : List D), xs.length = k + 1 → acc.length + k = 3 → a ≤ e → e < s.length →
    (∃ (j : Int) (ρ : EV.Env), ρ.getD 0 none = some (.str s) ∧ forGo (fTurn L) xs [some (.str s), some (.int (a : Nat)), some (.int (e : Nat)), some (.tup (.str nm :: acc.map T.D)), o4, o5] = .ok (.ret (lnD j (pargs rd s nm k acc e))) ρ) ∨
    (∃ (j : Nat) (ds : List D) (o4' o5' : Option D), pargs rd s nm k acc e = none ∧ forGo (fTurn L) xs [some (.str s), some (.int (a : Nat)), some (.int (e : Nat)), some (.tup (.str nm :: acc.map T.D)), o4, o5] = .ok .nx [some (.str s), some (.int (a : Nat)), some (.int (j : Nat)), some (.tup ds), o4', o5']) := by
  intro k
  induction k with
  | zero =>
    intro acc e o4 o5 xs hx hk hae hel
    obtain ⟨x, rfl⟩ : ∃ x, xs = [x] := by
      match xs, hx with
      | [x], _ => exact ⟨x, rfl⟩
    obtain ⟨j, hj⟩ := hrd (e + 1) (by omega) (by omega)
    have hdl : (D.str nm :: acc.map T.D).length = 4 := by rw [List.length_cons, List.length_map]; omega
    have ht := fTurn_ev L h (a := a) (x := x) (o4 := o4) (o5 := o5) (ds := .str nm :: acc.map T.D) hj (by omega)
    have hp : pargs rd s nm 0 acc e = none := rfl
    cases hr : rd (e + 1) with
    | none =>
      rw [hr] at ht
      exact .inl ⟨j, _, rfl, for_ret ht⟩
    | some te =>
      obtain ⟨t, e1⟩ := te
      rw [hr] at ht
      simp only at ht
      cases hc : s[e1]? with
      | none =>
        rw [hc] at ht
        exact .inl ⟨_, _, rfl, for_ret ht⟩
      | some c =>
        rw [hc] at ht
        simp only at ht
        by_cases c41 : c = 41
        · rw [if_pos c41, if_neg (by omega)] at ht
          exact .inl ⟨_, _, rfl, for_ret ht⟩
        · rw [if_neg c41] at ht
          by_cases c44 : c = 44
          · rw [if_pos c44] at ht
            exact .inr ⟨e1, _, _, _, hp, by rw [for_nx ht]; rfl⟩
          · rw [if_neg c44] at ht
            exact .inl ⟨_, _, rfl, for_ret ht⟩
  | succ k ih =>
    intro acc e o4 o5 xs hx hk hae hel
    obtain ⟨x, xs, rfl⟩ : ∃ x ys, xs = x :: ys := by
      match xs, hx with
      | x :: ys, _ => exact ⟨x, ys, rfl⟩
    obtain ⟨j, hj⟩ := hrd (e + 1) (by omega) (by omega)
    have hdl : (D.str nm :: acc.map T.D).length = acc.length + 1 := by rw [List.length_cons, List.length_map]
    have ht := fTurn_ev L h (a := a) (x := x) (o4 := o4) (o5 := o5) (ds := .str nm :: acc.map T.D) hj (by omega)
    cases hr : rd (e + 1) with
    | none =>
      rw [hr] at ht
      have hp : pargs rd s nm (k + 1) acc e = none := by unfold pargs; rw [hr]
      rw [hp]
      exact .inl ⟨j, _, rfl, for_ret ht⟩
    | some te =>
      obtain ⟨t, e1⟩ := te
      obtain ⟨h1, h2⟩ := hat _ _ _ (by omega) hr
      have hp : pargs rd s nm (k + 1) acc e = if s[e1]? = some 41 then some (.mk nm (acc ++ [t]), e1 + 1) else if s[e1]? = some 44 then pargs rd s nm k (acc ++ [t]) e1 else none := by
        conv => lhs; unfold pargs
        rw [hr]
      rw [hp]
      rw [hr] at ht
      simp only at ht
      rw [map_snoc T.D acc t] at ht
      cases hc : s[e1]? with
      | none =>
        rw [hc] at ht
        rw [if_neg (by simp), if_neg (by simp)]
        exact .inl ⟨_, _, rfl, for_ret ht⟩
      | some c =>
        rw [hc] at ht
        simp only at ht
        have hl := (List.getElem?_eq_some_iff.mp hc).1
        by_cases c41 : c = 41
        · rw [if_pos c41, if_pos (by omega)] at ht
          rw [if_pos (by rw [c41])]
          have hT : lnD 0 (some (.mk nm (acc ++ [t]), e1 + 1)) = .tup [.lst [.tup (.str nm :: (acc ++ [t]).map T.D)], .int ((e1 + 1 : Nat) : Int)] := by
            show D.tup [.lst [(T.mk nm (acc ++ [t])).D], _] = _
            rw [T.D_mk]
          rw [← hT] at ht
          exact .inl ⟨0, _, rfl, for_ret ht⟩
        · rw [if_neg c41] at ht
          rw [if_neg (by simpa using c41)]
          by_cases c44 : c = 44
          · rw [if_pos c44] at ht
            rw [if_pos (by rw [c44]), for_nx ht]
            exact ih (acc ++ [t]) e1 _ _ xs (by simpa using hx) (by simp; omega) (by omega) hl
          · rw [if_neg c44] at ht
            rw [if_neg (by simpa using c44)]
            exact .inl ⟨_, _, rfl, for_ret ht⟩
theorem range4 (L : Nat) (ρ : EV.Env) : evIt (C L) (.range1 (.lit (.int 4))) ρ = .ok [.int 0, .int 1, .int 2, .int 3] ρ := by
  rw [v_rng1]
  simp only [EV.v_lit, EV.v_var, EV.v_glob, EV.v_fn, EV.v_un, EV.v_bin, EV.v_slL, EV.v_slH, EV.v_slLH, EV.v_tup, EV.v_lst, EV.v_and, EV.v_or, EV.v_not, EV.v_ite, EV.v_chain, EV.v_call, EV.v_callF, EV.v_callIo, EV.v_callT, EV.v_callv, EV.v_nil, EV.v_cons, EV.v_seq, EV.v_enum, EV.v_zip, EV.v_rng1, EV.v_C, s_asg', s_asgO', s_asg2', s_expr', s_ret', s_retN', s_if', s_raise', ss_nil', ss_cons', r_ok, r_exc, r_opt, t_nm, cr_ok, cr_exc, cr_okS, List.getD_cons_zero, List.getD_cons_succ, List.set_cons_zero, List.set_cons_succ, B.pre, B.ev, Cm.ev, U.ev, D.truth, D.toInt, D.items, if_true, if_false, Bool.not_true, Bool.not_false, reduceCtorEq, Option.map_some, Option.bind_some, List.length_cons, List.length_nil, Nat.zero_add, Nat.reduceAdd, Nat.reduceLT, Nat.reduceLeDiff, Bool.and_true, Bool.true_and, decide_true]
  rw [if_pos (by decide)]
  rfl
theorem law_term_in_ok {s : List Nat} (h : Txt s) : ∀ (f a n : Nat), a ≤ s.length → s.length - a < f → ∃ j : Int, C (n + f + 1) 44 [.str s, .int (a : Nat)] = .ok (lnD j (pt s f a)) (.str s)
  | 0, a, n, ha, hf => by omega
  | f + 1, a, n, ha, hf => by
    have hz : s.length ≤ sizeLine := len_le (by have := h.1; omega)
    have hw := nLoop (n + f) hz a s.length wf0 a (by omega) (by unfold wf0; have := h.1; omega) (Nat.le_refl _) (by omega)
    have hw2 : evS (C (n + f + 1)) wf0 (.while_ nCond nBody) [some (.str s), some (.int (a : Nat)), some (.int (a : Nat)), none, none, none] = .ok .nx [some (.str s), some (.int (a : Nat)), some (.int (min (nameEnd s a) (a + 9) : Nat)), none, none, none] := hw
    unfold nCond nBody at hw2
    have hge := nameEnd_ge s a
    have hle := nameEnd_le ha
    have run : ∀ {d : D} {ρ : EV.Env}, ρ.getD 0 none = some (.str s) → evSs (C (n + f + 1)) wf0 d44.body [some (.str s), some (.int (a : Nat)), none, none, none, none] = .ok (.ret d) ρ → C (n + (f + 1) + 1) 44 [.str s, .int (a : Nat)] = .ok d (.str s) := fun h0 hb => by
      show C (n + f + 1 + 1) 44 _ = _
      rw [C_succ (di := d44) rfl, run_of (di := d44) (ds := [.str s, .int (a : Nat)]) rfl hb, h0]
      rfl
    unfold pt
    by_cases c1 : 0 < nameEnd s a - a ∧ nameEnd s a - a ≤ 8
    · rw [if_pos c1]
      have e1 : min (nameEnd s a) (a + 9) = nameEnd s a := by omega
      rw [e1] at hw2
      have i1 : decide ((0 : Int) < ((nameEnd s a : Nat) : Int) - ((a : Nat) : Int)) = true := decide_eq_true (by omega)
      have i2 : decide (((nameEnd s a : Nat) : Int) - ((a : Nat) : Int) < 9) = true := decide_eq_true (by omega)
      have hsl := slice_nm hz hle hge
      by_cases c2 : s[nameEnd s a]? = some 40
      · rw [if_pos c2]
        have hl := (List.getElem?_eq_some_iff.mp c2).1
        have i3 : decide (((nameEnd s a : Nat) : Int) < ((s.length : Nat) : Int)) = true := decide_eq_true (by omega)
        have q : D.eq? (.str [40]) (.str [40]) = some true := by rw [eq_ss (by decide) (by decide)]; rfl
        rcases fLoop (n + f + 1) (nm := (s.drop a).take (nameEnd s a - a)) h (a := a) (rd := pt s f) (fun b hb hbl => law_term_in_ok h f b n hbl (by omega)) (fun b t e hb hp => ⟨(pt_ok s f b t e hb hp).lt, (pt_ok s f b t e hb hp).le⟩) 3 [] (nameEnd s a) none none [.int 0, .int 1, .int 2, .int 3] rfl rfl hge hl with ⟨j, ρ, h0, hf⟩ | ⟨j, ds, o4, o5, hp, hf⟩
        · have hf2 : evS (C (n + f + 1)) wf0 (.for_ (.nm 4) (.range1 (.lit (.int 4))) fBody) [some (.str s), some (.int (a : Nat)), some (.int (nameEnd s a : Nat)), some (.tup [.str ((s.drop a).take (nameEnd s a - a))]), none, none] = .ok (.ret (lnD j (pargs (pt s f) s ((s.drop a).take (nameEnd s a - a)) 3 [] (nameEnd s a)))) ρ := by
            rw [s_for', range4]
            exact hf
          unfold fBody at hf2
          refine ⟨j, run h0 ?_⟩
          unfold d44
          simp only [EV.v_lit, EV.v_var, EV.v_glob, EV.v_fn, EV.v_un, EV.v_bin, EV.v_slL, EV.v_slH, EV.v_slLH, EV.v_tup, EV.v_lst, EV.v_and, EV.v_or, EV.v_not, EV.v_ite, EV.v_chain, EV.v_call, EV.v_callF, EV.v_callIo, EV.v_callT, EV.v_callv, EV.v_nil, EV.v_cons, EV.v_seq, EV.v_enum, EV.v_zip, EV.v_rng1, EV.v_C, s_asg', s_asgO', s_asg2', s_expr', s_ret', s_retN', s_if', s_raise', ss_nil', ss_cons', r_ok, r_exc, r_opt, t_nm, cr_ok, cr_exc, cr_okS, List.getD_cons_zero, List.getD_cons_succ, List.set_cons_zero, List.set_cons_succ, B.pre, B.ev, Cm.ev, U.ev, D.truth, D.toInt, D.items, if_true, if_false, Bool.not_true, Bool.not_false, reduceCtorEq, Option.map_some, Option.bind_some, List.length_cons, List.length_nil, Nat.zero_add, Nat.reduceAdd, Nat.reduceLT, Nat.reduceLeDiff, Bool.and_true, Bool.true_and, decide_true, hw2, i1, i2, hsl, hz, i3, atN c2, q, hf2]
        · have hf2 : evS (C (n + f + 1)) wf0 (.for_ (.nm 4) (.range1 (.lit (.int 4))) fBody) [some (.str s), some (.int (a : Nat)), some (.int (nameEnd s a : Nat)), some (.tup [.str ((s.drop a).take (nameEnd s a - a))]), none, none] = .ok .nx [some (.str s), some (.int (a : Nat)), some (.int (j : Nat)), some (.tup ds), o4, o5] := by
            rw [s_for', range4]
            exact hf
          unfold fBody at hf2
          rw [hp]
          refine ⟨j, run (ρ := [some (.str s), some (.int (a : Nat)), some (.int (j : Nat)), some (.tup ds), o4, o5]) rfl ?_⟩
          unfold d44
          simp only [EV.v_lit, EV.v_var, EV.v_glob, EV.v_fn, EV.v_un, EV.v_bin, EV.v_slL, EV.v_slH, EV.v_slLH, EV.v_tup, EV.v_lst, EV.v_and, EV.v_or, EV.v_not, EV.v_ite, EV.v_chain, EV.v_call, EV.v_callF, EV.v_callIo, EV.v_callT, EV.v_callv, EV.v_nil, EV.v_cons, EV.v_seq, EV.v_enum, EV.v_zip, EV.v_rng1, EV.v_C, s_asg', s_asgO', s_asg2', s_expr', s_ret', s_retN', s_if', s_raise', ss_nil', ss_cons', r_ok, r_exc, r_opt, t_nm, cr_ok, cr_exc, cr_okS, List.getD_cons_zero, List.getD_cons_succ, List.set_cons_zero, List.set_cons_succ, B.pre, B.ev, Cm.ev, U.ev, D.truth, D.toInt, D.items, if_true, if_false, Bool.not_true, Bool.not_false, reduceCtorEq, Option.map_some, Option.bind_some, List.length_cons, List.length_nil, Nat.zero_add, Nat.reduceAdd, Nat.reduceLT, Nat.reduceLeDiff, Bool.and_true, Bool.true_and, decide_true, hw2, i1, i2, hsl, hz, i3, atN c2, q, hf2, lnD]
      · rw [if_neg c2]
        refine ⟨0, run (ρ := [some (.str s), some (.int (a : Nat)), some (.int (nameEnd s a : Nat)), some (.tup [.str ((s.drop a).take (nameEnd s a - a))]), none, none]) rfl ?_⟩
        unfold d44
        cases hc : s[nameEnd s a]? with
        | none =>
          have := List.getElem?_eq_none_iff.mp hc
          have i3 : decide (((nameEnd s a : Nat) : Int) < ((s.length : Nat) : Int)) = false := decide_eq_false (by omega)
          simp only [EV.v_lit, EV.v_var, EV.v_glob, EV.v_fn, EV.v_un, EV.v_bin, EV.v_slL, EV.v_slH, EV.v_slLH, EV.v_tup, EV.v_lst, EV.v_and, EV.v_or, EV.v_not, EV.v_ite, EV.v_chain, EV.v_call, EV.v_callF, EV.v_callIo, EV.v_callT, EV.v_callv, EV.v_nil, EV.v_cons, EV.v_seq, EV.v_enum, EV.v_zip, EV.v_rng1, EV.v_C, s_asg', s_asgO', s_asg2', s_expr', s_ret', s_retN', s_if', s_raise', ss_nil', ss_cons', r_ok, r_exc, r_opt, t_nm, cr_ok, cr_exc, cr_okS, List.getD_cons_zero, List.getD_cons_succ, List.set_cons_zero, List.set_cons_succ, B.pre, B.ev, Cm.ev, U.ev, D.truth, D.toInt, D.items, if_true, if_false, Bool.not_true, Bool.not_false, reduceCtorEq, Option.map_some, Option.bind_some, List.length_cons, List.length_nil, Nat.zero_add, Nat.reduceAdd, Nat.reduceLT, Nat.reduceLeDiff, Bool.and_true, Bool.true_and, decide_true, hw2, i1, i2, hsl, hz, i3, lnD, T.D_mk, List.map_nil]
        | some c =>
          have hl := (List.getElem?_eq_some_iff.mp hc).1
          have hc128 := h.2 c (List.mem_of_getElem? hc)
          have i3 : decide (((nameEnd s a : Nat) : Int) < ((s.length : Nat) : Int)) = true := decide_eq_true (by omega)
          have q : D.eq? (.str [c]) (.str [40]) = some false := by
            rw [eq_ss (by intro x hx; rw [List.mem_singleton.mp hx]; exact hc128) (by decide), decide_eq_false]
            intro z
            apply c2
            rw [hc, List.head_eq_of_cons_eq z]
          simp only [EV.v_lit, EV.v_var, EV.v_glob, EV.v_fn, EV.v_un, EV.v_bin, EV.v_slL, EV.v_slH, EV.v_slLH, EV.v_tup, EV.v_lst, EV.v_and, EV.v_or, EV.v_not, EV.v_ite, EV.v_chain, EV.v_call, EV.v_callF, EV.v_callIo, EV.v_callT, EV.v_callv, EV.v_nil, EV.v_cons, EV.v_seq, EV.v_enum, EV.v_zip, EV.v_rng1, EV.v_C, s_asg', s_asgO', s_asg2', s_expr', s_ret', s_retN', s_if', s_raise', ss_nil', ss_cons', r_ok, r_exc, r_opt, t_nm, cr_ok, cr_exc, cr_okS, List.getD_cons_zero, List.getD_cons_succ, List.set_cons_zero, List.set_cons_succ, B.pre, B.ev, Cm.ev, U.ev, D.truth, D.toInt, D.items, if_true, if_false, Bool.not_true, Bool.not_false, reduceCtorEq, Option.map_some, Option.bind_some, List.length_cons, List.length_nil, Nat.zero_add, Nat.reduceAdd, Nat.reduceLT, Nat.reduceLeDiff, Bool.and_true, Bool.true_and, decide_true, hw2, i1, i2, hsl, hz, i3, atN hc, q, lnD, T.D_mk, List.map_nil]
    · rw [if_neg c1]
      refine ⟨(a : Nat), run (ρ := [some (.str s), some (.int (a : Nat)), some (.int (min (nameEnd s a) (a + 9) : Nat)), none, none, none]) rfl ?_⟩
      unfold d44
      by_cases c2 : 0 < nameEnd s a - a
      · have i1 : decide ((0 : Int) < ((min (nameEnd s a) (a + 9) : Nat) : Int) - ((a : Nat) : Int)) = true := decide_eq_true (by omega)
        have i2 : decide (((min (nameEnd s a) (a + 9) : Nat) : Int) - ((a : Nat) : Int) < 9) = false := decide_eq_false (by omega)
        simp only [EV.v_lit, EV.v_var, EV.v_glob, EV.v_fn, EV.v_un, EV.v_bin, EV.v_slL, EV.v_slH, EV.v_slLH, EV.v_tup, EV.v_lst, EV.v_and, EV.v_or, EV.v_not, EV.v_ite, EV.v_chain, EV.v_call, EV.v_callF, EV.v_callIo, EV.v_callT, EV.v_callv, EV.v_nil, EV.v_cons, EV.v_seq, EV.v_enum, EV.v_zip, EV.v_rng1, EV.v_C, s_asg', s_asgO', s_asg2', s_expr', s_ret', s_retN', s_if', s_raise', ss_nil', ss_cons', r_ok, r_exc, r_opt, t_nm, cr_ok, cr_exc, cr_okS, List.getD_cons_zero, List.getD_cons_succ, List.set_cons_zero, List.set_cons_succ, B.pre, B.ev, Cm.ev, U.ev, D.truth, D.toInt, D.items, if_true, if_false, Bool.not_true, Bool.not_false, reduceCtorEq, Option.map_some, Option.bind_some, List.length_cons, List.length_nil, Nat.zero_add, Nat.reduceAdd, Nat.reduceLT, Nat.reduceLeDiff, Bool.and_true, Bool.true_and, decide_true, hw2, i1, i2, lnD]
      · have i1 : decide ((0 : Int) < ((min (nameEnd s a) (a + 9) : Nat) : Int) - ((a : Nat) : Int)) = false := decide_eq_false (by omega)
        simp only [EV.v_lit, EV.v_var, EV.v_glob, EV.v_fn, EV.v_un, EV.v_bin, EV.v_slL, EV.v_slH, EV.v_slLH, EV.v_tup, EV.v_lst, EV.v_and, EV.v_or, EV.v_not, EV.v_ite, EV.v_chain, EV.v_call, EV.v_callF, EV.v_callIo, EV.v_callT, EV.v_callv, EV.v_nil, EV.v_cons, EV.v_seq, EV.v_enum, EV.v_zip, EV.v_rng1, EV.v_C, s_asg', s_asgO', s_asg2', s_expr', s_ret', s_retN', s_if', s_raise', ss_nil', ss_cons', r_ok, r_exc, r_opt, t_nm, cr_ok, cr_exc, cr_okS, List.getD_cons_zero, List.getD_cons_succ, List.set_cons_zero, List.set_cons_succ, B.pre, B.ev, Cm.ev, U.ev, D.truth, D.toInt, D.items, if_true, if_false, Bool.not_true, Bool.not_false, reduceCtorEq, Option.map_some, Option.bind_some, List.length_cons, List.length_nil, Nat.zero_add, Nat.reduceAdd, Nat.reduceLT, Nat.reduceLeDiff, Bool.and_true, Bool.true_and, decide_true, hw2, i1, lnD]
/-- what _law_whole_term gives -/
def lwD : Option T → EV.D
  | some t => .lst [t.D]
  | none => .non
theorem law_whole_term_ok (n : Nat) {s : List Nat} (h : Txt s) : C (n + s.length + 3) 45 [.str s] = .ok (lwD (wholeT s)) (.str s) := by
  have hz : s.length ≤ sizeLine := len_le (by have := h.1; omega)
  obtain ⟨j, hr⟩ := law_term_in_ok h (s.length + 1) 0 n (Nat.zero_le _) (by omega)
  have hr : C (n + s.length + 2) 44 [.str s, .int 0] = .ok (lnD j (pt s (s.length + 1) 0)) (.str s) := hr
  show C (n + s.length + 2 + 1) 45 _ = _
  rw [C_succ (di := d45) rfl]
  unfold wholeT
  cases hp : pt s (s.length + 1) 0 with
  | none =>
    rw [hp] at hr
    have ht := t_tp2 (i := 1) (j := 2) (d := .non) (e := .int j) (ρ := [some (.str s), none, none]) (by simp) (by simp)
    refine run_of (ρ := [some (.str s), some .non, some (.int j)]) rfl ?_
    show evSs (C (n + s.length + 2)) wf0 d45.body [some (.str s), none, none] = _
    unfold d45
    simp only [EV.v_lit, EV.v_var, EV.v_glob, EV.v_fn, EV.v_un, EV.v_bin, EV.v_slL, EV.v_slH, EV.v_slLH, EV.v_tup, EV.v_lst, EV.v_and, EV.v_or, EV.v_not, EV.v_ite, EV.v_chain, EV.v_call, EV.v_callF, EV.v_callIo, EV.v_callT, EV.v_callv, EV.v_nil, EV.v_cons, EV.v_seq, EV.v_enum, EV.v_zip, EV.v_rng1, EV.v_C, s_asg', s_asgO', s_asg2', s_expr', s_ret', s_retN', s_if', s_raise', ss_nil', ss_cons', r_ok, r_exc, r_opt, t_nm, cr_ok, cr_exc, cr_okS, List.getD_cons_zero, List.getD_cons_succ, List.set_cons_zero, List.set_cons_succ, B.pre, B.ev, Cm.ev, U.ev, D.truth, D.toInt, D.items, if_true, if_false, Bool.not_true, Bool.not_false, reduceCtorEq, Option.map_some, Option.bind_some, List.length_cons, List.length_nil, Nat.zero_add, Nat.reduceAdd, Nat.reduceLT, Nat.reduceLeDiff, Bool.and_true, Bool.true_and, decide_true, hr, lnD, ht, lwD]
  | some te =>
    obtain ⟨t, e⟩ := te
    rw [hp] at hr
    have ht := t_tp2 (i := 1) (j := 2) (d := .lst [t.D]) (e := .int (e : Nat)) (ρ := [some (.str s), none, none]) (by simp) (by simp)
    refine run_of (ρ := [some (.str s), some (.lst [t.D]), some (.int (e : Nat))]) rfl ?_
    show evSs (C (n + s.length + 2)) wf0 d45.body [some (.str s), none, none] = _
    unfold d45
    by_cases c1 : e = s.length
    · have i1 : (((e : Nat) : Int) == ((s.length : Nat) : Int)) = true := by rw [c1]; exact beq_self_eq_true _
      simp only [EV.v_lit, EV.v_var, EV.v_glob, EV.v_fn, EV.v_un, EV.v_bin, EV.v_slL, EV.v_slH, EV.v_slLH, EV.v_tup, EV.v_lst, EV.v_and, EV.v_or, EV.v_not, EV.v_ite, EV.v_chain, EV.v_call, EV.v_callF, EV.v_callIo, EV.v_callT, EV.v_callv, EV.v_nil, EV.v_cons, EV.v_seq, EV.v_enum, EV.v_zip, EV.v_rng1, EV.v_C, s_asg', s_asgO', s_asg2', s_expr', s_ret', s_retN', s_if', s_raise', ss_nil', ss_cons', r_ok, r_exc, r_opt, t_nm, cr_ok, cr_exc, cr_okS, List.getD_cons_zero, List.getD_cons_succ, List.set_cons_zero, List.set_cons_succ, B.pre, B.ev, Cm.ev, U.ev, D.truth, D.toInt, D.items, if_true, if_false, Bool.not_true, Bool.not_false, reduceCtorEq, Option.map_some, Option.bind_some, List.length_cons, List.length_nil, Nat.zero_add, Nat.reduceAdd, Nat.reduceLT, Nat.reduceLeDiff, Bool.and_true, Bool.true_and, decide_true, hr, lnD, ht, lwD, eq_ii, hz, i1, if_pos c1]
    · have i1 : (((e : Nat) : Int) == ((s.length : Nat) : Int)) = false := by rw [beq_eq_false_iff_ne]; omega
      simp only [EV.v_lit, EV.v_var, EV.v_glob, EV.v_fn, EV.v_un, EV.v_bin, EV.v_slL, EV.v_slH, EV.v_slLH, EV.v_tup, EV.v_lst, EV.v_and, EV.v_or, EV.v_not, EV.v_ite, EV.v_chain, EV.v_call, EV.v_callF, EV.v_callIo, EV.v_callT, EV.v_callv, EV.v_nil, EV.v_cons, EV.v_seq, EV.v_enum, EV.v_zip, EV.v_rng1, EV.v_C, s_asg', s_asgO', s_asg2', s_expr', s_ret', s_retN', s_if', s_raise', ss_nil', ss_cons', r_ok, r_exc, r_opt, t_nm, cr_ok, cr_exc, cr_okS, List.getD_cons_zero, List.getD_cons_succ, List.set_cons_zero, List.set_cons_succ, B.pre, B.ev, Cm.ev, U.ev, D.truth, D.toInt, D.items, if_true, if_false, Bool.not_true, Bool.not_false, reduceCtorEq, Option.map_some, Option.bind_some, List.length_cons, List.length_nil, Nat.zero_add, Nat.reduceAdd, Nat.reduceLT, Nat.reduceLeDiff, Bool.and_true, Bool.true_and, decide_true, hr, lnD, ht, lwD, eq_ii, hz, i1, if_neg c1]
end K49
end
section
set_option autoImplicit false
/-! P49z: rules read. -/
namespace K49
open PySem EV

theorem small_lt {c : Nat} (h : small c = true) : c < 128 := by
  unfold small at h
  simp only [Bool.and_eq_true, decide_eq_true_eq] at h
  omega
theorem T.Ok.gd {k : Nat} {t : T} (h : T.Ok k t) : Gd k t.D := by
  induction h with
  | @mk k nm ps h1 h2 h3 ih =>
    rw [T.D_mk]
    refine gd_tup fun d hd => ?_
    rcases List.mem_cons.mp hd with rfl | hd
    · exact gd_str k fun c hc => small_lt (h1.2.2 c hc)
    · obtain ⟨p, hp, rfl⟩ := List.mem_map.mp hd
      exact ih p hp
theorem wholeT_ok {s : List Nat} {t : T} (hl : s.length ≤ 178) (h : wholeT s = some t) : T.Ok 60 t ∧ t.text = s := by
  unfold wholeT at h
  cases hp : pt s (s.length + 1) 0 with
  | none => rw [hp] at h; cases h
  | some te =>
    obtain ⟨t', e⟩ := te
    rw [hp] at h
    simp only at h
    by_cases c : e = s.length
    · rw [if_pos c] at h
      cases h
      obtain ⟨a1, a2, a3, k, a4, a5⟩ := pt_ok s _ _ _ _ (Nat.zero_le _) hp
      refine ⟨a4.mono (by omega), ?_⟩
      rw [a3, c]
      simp
    · rw [if_neg c] at h
      cases h
theorem wt (n : Nat) {s : List Nat} (h : Txt s) (hl : s.length ≤ 180) : C (n + 183) 24 [.str s] = .ok (wtD (wholeT s)) (.str s) := by
  have := whole_term_ok (n + (180 - s.length)) h
  rwa [show n + (180 - s.length) + s.length + 3 = n + 183 by omega] at this
theorem lwt (n : Nat) {s : List Nat} (h : Txt s) (hl : s.length ≤ 180) : C (n + 183) 45 [.str s] = .ok (lwD (wholeT s)) (.str s) := by
  have := law_whole_term_ok (n + (180 - s.length)) h
  rwa [show n + (180 - s.length) + s.length + 3 = n + 183 by omega] at this
theorem wtD_oD (o : Option T) : wtD o = oD T.D o := by cases o <;> rfl
theorem lwD_oD (o : Option T) : lwD o = oD (fun t => .lst [t.D]) o := by cases o <;> rfl
theorem part_le {S s : List Nat} {w : List Nat} (h : w ∈ parts S s) : w.length ≤ s.length := by simpa using ((spl_parts S 0 [] s).1 w h).2

theorem is_tuple_ev (n : Nat) (ds : List D) (m : Int) : C (n + 1) 3 [.tup ds, .int m] = .ok (.bl (((ds.length : Nat) : Int) == m)) (.tup ds) := by
  rw [C_succ (di := d3) rfl]
  refine run_of (ρ := [some (.tup ds), some (.int m)]) rfl ?_
  show evSs (C n) wf0 d3.body [some (.tup ds), some (.int m)] = _
  unfold d3
  simp only [EV.v_lit, EV.v_var, EV.v_glob, EV.v_fn, EV.v_un, EV.v_bin, EV.v_slL, EV.v_slH, EV.v_slLH, EV.v_tup, EV.v_lst, EV.v_and, EV.v_or, EV.v_not, EV.v_ite, EV.v_chain, EV.v_call, EV.v_callF, EV.v_callIo, EV.v_callT, EV.v_callv, EV.v_nil, EV.v_cons, EV.v_seq, EV.v_enum, EV.v_zip, EV.v_rng1, EV.v_C, s_asg', s_asgO', s_asg2', s_expr', s_ret', s_retN', s_if', s_raise', ss_nil', ss_cons', r_ok, r_exc, r_opt, t_nm, cr_ok, cr_exc, cr_okS, List.getD_cons_zero, List.getD_cons_succ, List.set_cons_zero, List.set_cons_succ, B.pre, B.ev, Cm.ev, U.ev, D.truth, D.toInt, D.items, if_true, if_false, Bool.not_true, Bool.not_false, reduceCtorEq, Option.map_some, Option.bind_some, List.length_cons, List.length_nil, Nat.zero_add, Nat.reduceAdd, Nat.reduceLT, Nat.reduceLeDiff, Bool.and_true, Bool.true_and, decide_true, D.isa, D.ty, eq_ii, beq_self_eq_true]
theorem is_rule_not (n : Nat) {ds : List D} (h : ds.length ≠ 2) : C (n + 2) 7 [.tup ds] = .ok (.bl false) (.tup ds) := by
  rw [C_succ (di := d7) rfl]
  refine run_of (ρ := [some (.tup ds)]) rfl ?_
  show evSs (C (n + 1)) wf0 d7.body [some (.tup ds)] = _
  have hf : (((ds.length : Nat) : Int) == 2) = false := by rw [beq_eq_false_iff_ne]; omega
  unfold d7
  simp only [EV.v_lit, EV.v_var, EV.v_glob, EV.v_fn, EV.v_un, EV.v_bin, EV.v_slL, EV.v_slH, EV.v_slLH, EV.v_tup, EV.v_lst, EV.v_and, EV.v_or, EV.v_not, EV.v_ite, EV.v_chain, EV.v_call, EV.v_callF, EV.v_callIo, EV.v_callT, EV.v_callv, EV.v_nil, EV.v_cons, EV.v_seq, EV.v_enum, EV.v_zip, EV.v_rng1, EV.v_C, s_asg', s_asgO', s_asg2', s_expr', s_ret', s_retN', s_if', s_raise', ss_nil', ss_cons', r_ok, r_exc, r_opt, t_nm, cr_ok, cr_exc, cr_okS, List.getD_cons_zero, List.getD_cons_succ, List.set_cons_zero, List.set_cons_succ, B.pre, B.ev, Cm.ev, U.ev, D.truth, D.toInt, D.items, if_true, if_false, Bool.not_true, Bool.not_false, reduceCtorEq, Option.map_some, Option.bind_some, List.length_cons, List.length_nil, Nat.zero_add, Nat.reduceAdd, Nat.reduceLT, Nat.reduceLeDiff, Bool.and_true, Bool.true_and, decide_true, is_tuple_ev, hf]
theorem is_rule_two (n : Nat) {k : Nat} {a b : T} (ha : T.Ok k a) (hb : T.Ok k b) (hk : k ≤ 64) : C (n + k + 2) 7 [.tup [a.D, b.D]] = .ok (.bl (!a.D.eqv b.D)) (.tup [a.D, b.D]) := by
  show C (n + k + 1 + 1) 7 _ = _
  rw [C_succ (di := d7) rfl]
  refine run_of (ρ := [some (.tup [a.D, b.D])]) rfl ?_
  show evSs (C (n + k + 1)) wf0 d7.body [some (.tup [a.D, b.D])] = _
  have hq := eq_some ha.gd hb.gd hk
  unfold d7
  simp only [EV.v_lit, EV.v_var, EV.v_glob, EV.v_fn, EV.v_un, EV.v_bin, EV.v_slL, EV.v_slH, EV.v_slLH, EV.v_tup, EV.v_lst, EV.v_and, EV.v_or, EV.v_not, EV.v_ite, EV.v_chain, EV.v_call, EV.v_callF, EV.v_callIo, EV.v_callT, EV.v_callv, EV.v_nil, EV.v_cons, EV.v_seq, EV.v_enum, EV.v_zip, EV.v_rng1, EV.v_C, s_asg', s_asgO', s_asg2', s_expr', s_ret', s_retN', s_if', s_raise', ss_nil', ss_cons', r_ok, r_exc, r_opt, t_nm, cr_ok, cr_exc, cr_okS, List.getD_cons_zero, List.getD_cons_succ, List.set_cons_zero, List.set_cons_succ, B.pre, B.ev, Cm.ev, U.ev, D.truth, D.toInt, D.items, if_true, if_false, Bool.not_true, Bool.not_false, reduceCtorEq, Option.map_some, Option.bind_some, List.length_cons, List.length_nil, Nat.zero_add, Nat.reduceAdd, Nat.reduceLT, Nat.reduceLeDiff, Bool.and_true, Bool.true_and, decide_true, is_tuple_of_ok (n + k) (ds := [a.D, b.D]) (m := 2) rfl, is_term_ok ha n, is_term_ok hb n, at0, at1, hq]

def ruleOf (s : List Nat) : Option Rl := match (parts [32, 116, 111, 32] s).map wholeT with
  | [some a, some b] => if a.D.eqv b.D = true then none else some ⟨a, b⟩
  | _ => none
/-- what is known of the sides -/
theorem sides_ok {s : List Nat} (hl : s.length ≤ 178) {a : T} (h : some a ∈ (parts [32, 116, 111, 32] s).map wholeT) : T.Ok 60 a := by
  obtain ⟨p, hp, hpa⟩ := List.mem_map.mp h
  exact (wholeT_ok (by have := part_le hp; omega) hpa).1
theorem whole_rule_ok (n : Nat) {s : List Nat} (h : Txt s) (hl : s.length ≤ 178) : C (n + 184) 25 [.str s] = .ok (oD Rl.D (ruleOf s)) (.str s) := by
  have hp : (parts [32, 116, 111, 32] s).length ≤ 1000 := Nat.le_trans parts_len (by have := h.1; omega)
  have hsp := split_ev (S := [32, 116, 111, 32]) (by decide) (by decide) h.1
  simp only [B.ev] at hsp
  have hk : evE (C (n + 183)) (.comp [("part", 2)] (.nm 2) (.seq (.bin .split (.var 0) (.glob "TO" (.str [32, 116, 111, 32])))) (.call false false 24 (.cons (.var 2) .nil))) [some (.str s), none, none] = .ok (.lst ((parts [32, 116, 111, 32] s).map fun w => wtD (wholeT w))) [some (.str s), none, none] := by
    refine comp_one (xs := parts [32, 116, 111, 32] s) (e := .str) (g := fun w => wtD (wholeT w)) ?_ (by simp) (len_le hp) fun w hw' => ?_
    · simp only [EV.v_lit, EV.v_var, EV.v_glob, EV.v_fn, EV.v_un, EV.v_bin, EV.v_slL, EV.v_slH, EV.v_slLH, EV.v_tup, EV.v_lst, EV.v_and, EV.v_or, EV.v_not, EV.v_ite, EV.v_chain, EV.v_call, EV.v_callF, EV.v_callIo, EV.v_callT, EV.v_callv, EV.v_nil, EV.v_cons, EV.v_seq, EV.v_enum, EV.v_zip, EV.v_rng1, EV.v_C, s_asg', s_asgO', s_asg2', s_expr', s_ret', s_retN', s_if', s_raise', ss_nil', ss_cons', r_ok, r_exc, r_opt, t_nm, cr_ok, cr_exc, cr_okS, List.getD_cons_zero, List.getD_cons_succ, List.set_cons_zero, List.set_cons_succ, B.pre, B.ev, Cm.ev, U.ev, D.truth, D.toInt, D.items, if_true, if_false, Bool.not_true, Bool.not_false, reduceCtorEq, Option.map_some, Option.bind_some, List.length_cons, List.length_nil, Nat.zero_add, Nat.reduceAdd, Nat.reduceLT, Nat.reduceLeDiff, Bool.and_true, Bool.true_and, decide_true, hsp]
    · simp only [EV.v_lit, EV.v_var, EV.v_glob, EV.v_fn, EV.v_un, EV.v_bin, EV.v_slL, EV.v_slH, EV.v_slLH, EV.v_tup, EV.v_lst, EV.v_and, EV.v_or, EV.v_not, EV.v_ite, EV.v_chain, EV.v_call, EV.v_callF, EV.v_callIo, EV.v_callT, EV.v_callv, EV.v_nil, EV.v_cons, EV.v_seq, EV.v_enum, EV.v_zip, EV.v_rng1, EV.v_C, s_asg', s_asgO', s_asg2', s_expr', s_ret', s_retN', s_if', s_raise', ss_nil', ss_cons', r_ok, r_exc, r_opt, t_nm, cr_ok, cr_exc, cr_okS, List.getD_cons_zero, List.getD_cons_succ, List.set_cons_zero, List.set_cons_succ, B.pre, B.ev, Cm.ev, U.ev, D.truth, D.toInt, D.items, if_true, if_false, Bool.not_true, Bool.not_false, reduceCtorEq, Option.map_some, Option.bind_some, List.length_cons, List.length_nil, Nat.zero_add, Nat.reduceAdd, Nat.reduceLT, Nat.reduceLeDiff, Bool.and_true, Bool.true_and, decide_true, wt n (parts_txt h w hw') (by have := part_le hw'; omega)]
  have e1 : ((parts [32, 116, 111, 32] s).map fun w => wtD (wholeT w)) = ((parts [32, 116, 111, 32] s).map wholeT).map (oD T.D) := by
    rw [List.map_map]
    exact List.map_congr_left fun w _ => wtD_oD _
  rw [e1] at hk
  have hin := in_many (f := T.D) (k := 60) (fun a => by cases a; rw [T.D_mk]; rfl) (os := (parts [32, 116, 111, 32] s).map wholeT) (fun a ha => (sides_ok hl ha).gd) (by decide)
  have hok : ∀ a, some a ∈ (parts [32, 116, 111, 32] s).map wholeT → T.Ok 60 a := fun a ha => sides_ok hl ha
  unfold ruleOf
  generalize (parts [32, 116, 111, 32] s).map wholeT = os at hk hin hok
  show C (n + 183 + 1) 25 _ = _
  rw [C_succ (di := d25) rfl]
  refine run_of (ρ := [some (.str s), some (.tup (os.map (oD T.D))), none]) rfl ?_
  show evSs (C (n + 183)) wf0 d25.body [some (.str s), none, none] = _
  unfold d25
  cases hb : os.all Option.isSome with
  | false =>
    rw [hb] at hin
    simp only [EV.v_lit, EV.v_var, EV.v_glob, EV.v_fn, EV.v_un, EV.v_bin, EV.v_slL, EV.v_slH, EV.v_slLH, EV.v_tup, EV.v_lst, EV.v_and, EV.v_or, EV.v_not, EV.v_ite, EV.v_chain, EV.v_call, EV.v_callF, EV.v_callIo, EV.v_callT, EV.v_callv, EV.v_nil, EV.v_cons, EV.v_seq, EV.v_enum, EV.v_zip, EV.v_rng1, EV.v_C, s_asg', s_asgO', s_asg2', s_expr', s_ret', s_retN', s_if', s_raise', ss_nil', ss_cons', r_ok, r_exc, r_opt, t_nm, cr_ok, cr_exc, cr_okS, List.getD_cons_zero, List.getD_cons_succ, List.set_cons_zero, List.set_cons_succ, B.pre, B.ev, Cm.ev, U.ev, D.truth, D.toInt, D.items, if_true, if_false, Bool.not_true, Bool.not_false, reduceCtorEq, Option.map_some, Option.bind_some, List.length_cons, List.length_nil, Nat.zero_add, Nat.reduceAdd, Nat.reduceLT, Nat.reduceLeDiff, Bool.and_true, Bool.true_and, decide_true, hk, hin]
    split
    · rename_i a b _
      exact absurd hb (by simp)
    · rfl
  | true =>
    rw [hb] at hin
    obtain ⟨as, rfl⟩ := all_some hb
    rw [map_oD] at hk hin ⊢
    by_cases c2 : as.length = 2
    · obtain ⟨a, b, rfl⟩ : ∃ a b, as = [a, b] := by
        match as, c2 with
        | [a, b], _ => exact ⟨a, b, rfl⟩
      have hr := is_rule_two (n + 121) (hok a (by simp)) (hok b (by simp)) (by decide)
      have hr : C (n + 183) 7 [.tup [a.D, b.D]] = .ok (.bl (!a.D.eqv b.D)) (.tup [a.D, b.D]) := hr
      simp only [List.map_cons, List.map_nil] at hk hin ⊢
      cases he : a.D.eqv b.D with
      | true =>
        rw [he] at hr
        simp only [EV.v_lit, EV.v_var, EV.v_glob, EV.v_fn, EV.v_un, EV.v_bin, EV.v_slL, EV.v_slH, EV.v_slLH, EV.v_tup, EV.v_lst, EV.v_and, EV.v_or, EV.v_not, EV.v_ite, EV.v_chain, EV.v_call, EV.v_callF, EV.v_callIo, EV.v_callT, EV.v_callv, EV.v_nil, EV.v_cons, EV.v_seq, EV.v_enum, EV.v_zip, EV.v_rng1, EV.v_C, s_asg', s_asgO', s_asg2', s_expr', s_ret', s_retN', s_if', s_raise', ss_nil', ss_cons', r_ok, r_exc, r_opt, t_nm, cr_ok, cr_exc, cr_okS, List.getD_cons_zero, List.getD_cons_succ, List.set_cons_zero, List.set_cons_succ, B.pre, B.ev, Cm.ev, U.ev, D.truth, D.toInt, D.items, if_true, if_false, Bool.not_true, Bool.not_false, reduceCtorEq, Option.map_some, Option.bind_some, List.length_cons, List.length_nil, Nat.zero_add, Nat.reduceAdd, Nat.reduceLT, Nat.reduceLeDiff, Bool.and_true, Bool.true_and, decide_true, hk, hin, hr]
        rfl
      | false =>
        rw [he] at hr
        simp only [EV.v_lit, EV.v_var, EV.v_glob, EV.v_fn, EV.v_un, EV.v_bin, EV.v_slL, EV.v_slH, EV.v_slLH, EV.v_tup, EV.v_lst, EV.v_and, EV.v_or, EV.v_not, EV.v_ite, EV.v_chain, EV.v_call, EV.v_callF, EV.v_callIo, EV.v_callT, EV.v_callv, EV.v_nil, EV.v_cons, EV.v_seq, EV.v_enum, EV.v_zip, EV.v_rng1, EV.v_C, s_asg', s_asgO', s_asg2', s_expr', s_ret', s_retN', s_if', s_raise', ss_nil', ss_cons', r_ok, r_exc, r_opt, t_nm, cr_ok, cr_exc, cr_okS, List.getD_cons_zero, List.getD_cons_succ, List.set_cons_zero, List.set_cons_succ, B.pre, B.ev, Cm.ev, U.ev, D.truth, D.toInt, D.items, if_true, if_false, Bool.not_true, Bool.not_false, reduceCtorEq, Option.map_some, Option.bind_some, List.length_cons, List.length_nil, Nat.zero_add, Nat.reduceAdd, Nat.reduceLT, Nat.reduceLeDiff, Bool.and_true, Bool.true_and, decide_true, hk, hin, hr]
        rfl
    · have hr := is_rule_not (n + 181) (ds := as.map T.D) (by rw [List.length_map]; exact c2)
      have hr : C (n + 183) 7 [.tup (as.map T.D)] = .ok (.bl false) (.tup (as.map T.D)) := hr
      simp only [EV.v_lit, EV.v_var, EV.v_glob, EV.v_fn, EV.v_un, EV.v_bin, EV.v_slL, EV.v_slH, EV.v_slLH, EV.v_tup, EV.v_lst, EV.v_and, EV.v_or, EV.v_not, EV.v_ite, EV.v_chain, EV.v_call, EV.v_callF, EV.v_callIo, EV.v_callT, EV.v_callv, EV.v_nil, EV.v_cons, EV.v_seq, EV.v_enum, EV.v_zip, EV.v_rng1, EV.v_C, s_asg', s_asgO', s_asg2', s_expr', s_ret', s_retN', s_if', s_raise', ss_nil', ss_cons', r_ok, r_exc, r_opt, t_nm, cr_ok, cr_exc, cr_okS, List.getD_cons_zero, List.getD_cons_succ, List.set_cons_zero, List.set_cons_succ, B.pre, B.ev, Cm.ev, U.ev, D.truth, D.toInt, D.items, if_true, if_false, Bool.not_true, Bool.not_false, reduceCtorEq, Option.map_some, Option.bind_some, List.length_cons, List.length_nil, Nat.zero_add, Nat.reduceAdd, Nat.reduceLT, Nat.reduceLeDiff, Bool.and_true, Bool.true_and, decide_true, hk, hin, hr]
      split
      · rename_i a b he
        exact absurd (by simpa using congrArg List.length he) c2
      · rfl
theorem law_rule_ok (n : Nat) {s : List Nat} (h : Txt s) (hl : s.length ≤ 178) : C (n + 184) 46 [.str s] = .ok (oD (fun r => .lst [Rl.D r]) (ruleOf s)) (.str s) := by
  have hp : (parts [32, 116, 111, 32] s).length ≤ 1000 := Nat.le_trans parts_len (by have := h.1; omega)
  have hsp := split_ev (S := [32, 116, 111, 32]) (by decide) (by decide) h.1
  simp only [B.ev] at hsp
  have hk : evE (C (n + 183)) (.comp [("part", 3)] (.nm 3) (.seq (.var 1)) (.call false false 45 (.cons (.var 3) .nil))) [some (.str s), some (.lst ((parts [32, 116, 111, 32] s).map .str)), none, none] = .ok (.lst ((parts [32, 116, 111, 32] s).map fun w => lwD (wholeT w))) [some (.str s), some (.lst ((parts [32, 116, 111, 32] s).map .str)), none, none] := by
    refine comp_one (xs := parts [32, 116, 111, 32] s) (e := .str) (g := fun w => lwD (wholeT w)) ?_ (by simp) (len_le hp) fun w hw' => ?_
    · simp only [EV.v_lit, EV.v_var, EV.v_glob, EV.v_fn, EV.v_un, EV.v_bin, EV.v_slL, EV.v_slH, EV.v_slLH, EV.v_tup, EV.v_lst, EV.v_and, EV.v_or, EV.v_not, EV.v_ite, EV.v_chain, EV.v_call, EV.v_callF, EV.v_callIo, EV.v_callT, EV.v_callv, EV.v_nil, EV.v_cons, EV.v_seq, EV.v_enum, EV.v_zip, EV.v_rng1, EV.v_C, s_asg', s_asgO', s_asg2', s_expr', s_ret', s_retN', s_if', s_raise', ss_nil', ss_cons', r_ok, r_exc, r_opt, t_nm, cr_ok, cr_exc, cr_okS, List.getD_cons_zero, List.getD_cons_succ, List.set_cons_zero, List.set_cons_succ, B.pre, B.ev, Cm.ev, U.ev, D.truth, D.toInt, D.items, if_true, if_false, Bool.not_true, Bool.not_false, reduceCtorEq, Option.map_some, Option.bind_some, List.length_cons, List.length_nil, Nat.zero_add, Nat.reduceAdd, Nat.reduceLT, Nat.reduceLeDiff, Bool.and_true, Bool.true_and, decide_true]
    · simp only [EV.v_lit, EV.v_var, EV.v_glob, EV.v_fn, EV.v_un, EV.v_bin, EV.v_slL, EV.v_slH, EV.v_slLH, EV.v_tup, EV.v_lst, EV.v_and, EV.v_or, EV.v_not, EV.v_ite, EV.v_chain, EV.v_call, EV.v_callF, EV.v_callIo, EV.v_callT, EV.v_callv, EV.v_nil, EV.v_cons, EV.v_seq, EV.v_enum, EV.v_zip, EV.v_rng1, EV.v_C, s_asg', s_asgO', s_asg2', s_expr', s_ret', s_retN', s_if', s_raise', ss_nil', ss_cons', r_ok, r_exc, r_opt, t_nm, cr_ok, cr_exc, cr_okS, List.getD_cons_zero, List.getD_cons_succ, List.set_cons_zero, List.set_cons_succ, B.pre, B.ev, Cm.ev, U.ev, D.truth, D.toInt, D.items, if_true, if_false, Bool.not_true, Bool.not_false, reduceCtorEq, Option.map_some, Option.bind_some, List.length_cons, List.length_nil, Nat.zero_add, Nat.reduceAdd, Nat.reduceLT, Nat.reduceLeDiff, Bool.and_true, Bool.true_and, decide_true, lwt n (parts_txt h w hw') (by have := part_le hw'; omega)]
  have e1 : ((parts [32, 116, 111, 32] s).map fun w => lwD (wholeT w)) = ((parts [32, 116, 111, 32] s).map wholeT).map (oD (fun t => .lst [t.D])) := by
    rw [List.map_map]
    exact List.map_congr_left fun w _ => lwD_oD _
  rw [e1] at hk
  have hin := in_many (f := fun t => .lst [T.D t]) (k := 61) (fun a => rfl) (os := (parts [32, 116, 111, 32] s).map wholeT) (fun a ha => gd_lst fun d hd => by rw [List.mem_singleton.mp hd]; exact (sides_ok hl ha).gd) (by decide)
  have hok : ∀ a, some a ∈ (parts [32, 116, 111, 32] s).map wholeT → T.Ok 60 a := fun a ha => sides_ok hl ha
  have hlen : ((parts [32, 116, 111, 32] s).map wholeT).length = ((parts [32, 116, 111, 32] s).map D.str).length := by rw [List.length_map, List.length_map]
  unfold ruleOf
  generalize (parts [32, 116, 111, 32] s).map wholeT = os at hk hin hok hlen
  show C (n + 183 + 1) 46 _ = _
  rw [C_succ (di := d46) rfl]
  refine run_of (ρ := [some (.str s), some (.lst ((parts [32, 116, 111, 32] s).map .str)), some (.lst (os.map (oD fun t => .lst [T.D t]))), none]) rfl ?_
  show evSs (C (n + 183)) wf0 d46.body [some (.str s), none, none, none] = _
  unfold d46
  by_cases c2 : os.length = 2
  · have i2 : (((((parts [32, 116, 111, 32] s).map D.str).length : Nat) : Int) == 2) = true := by rw [← hlen, c2]; rfl
    cases hb : os.all Option.isSome with
    | false =>
      rw [hb] at hin
      simp only [EV.v_lit, EV.v_var, EV.v_glob, EV.v_fn, EV.v_un, EV.v_bin, EV.v_slL, EV.v_slH, EV.v_slLH, EV.v_tup, EV.v_lst, EV.v_and, EV.v_or, EV.v_not, EV.v_ite, EV.v_chain, EV.v_call, EV.v_callF, EV.v_callIo, EV.v_callT, EV.v_callv, EV.v_nil, EV.v_cons, EV.v_seq, EV.v_enum, EV.v_zip, EV.v_rng1, EV.v_C, s_asg', s_asgO', s_asg2', s_expr', s_ret', s_retN', s_if', s_raise', ss_nil', ss_cons', r_ok, r_exc, r_opt, t_nm, cr_ok, cr_exc, cr_okS, List.getD_cons_zero, List.getD_cons_succ, List.set_cons_zero, List.set_cons_succ, B.pre, B.ev, Cm.ev, U.ev, D.truth, D.toInt, D.items, if_true, if_false, Bool.not_true, Bool.not_false, reduceCtorEq, Option.map_some, Option.bind_some, List.length_cons, List.length_nil, Nat.zero_add, Nat.reduceAdd, Nat.reduceLT, Nat.reduceLeDiff, Bool.and_true, Bool.true_and, decide_true, hsp, hk, hin, eq_ii, i2]
      split
      · rename_i a b
        exact absurd hb (by simp)
      · rfl
    | true =>
      rw [hb] at hin
      obtain ⟨as, rfl⟩ := all_some hb
      rw [map_oD] at hk hin ⊢
      obtain ⟨a, b, rfl⟩ : ∃ a b, as = [a, b] := by
        match as, c2 with
        | [a, b], _ => exact ⟨a, b, rfl⟩
      have ga := (hok a (by simp)).gd
      have gb := (hok b (by simp)).gd
      have hq : D.eq? (.lst [a.D]) (.lst [b.D]) = some (a.D.eqv b.D) := by
        rw [eq_some (k := 61) (gd_lst fun d hd => by rw [List.mem_singleton.mp hd]; exact ga) (gd_lst fun d hd => by rw [List.mem_singleton.mp hd]; exact gb) (by decide)]
        show some (a.D.eqv b.D && true) = _
        rw [Bool.and_true]
      simp only [List.map_cons, List.map_nil] at hk hin ⊢
      cases he : a.D.eqv b.D with
      | true =>
        rw [he] at hq
        simp only [EV.v_lit, EV.v_var, EV.v_glob, EV.v_fn, EV.v_un, EV.v_bin, EV.v_slL, EV.v_slH, EV.v_slLH, EV.v_tup, EV.v_lst, EV.v_and, EV.v_or, EV.v_not, EV.v_ite, EV.v_chain, EV.v_call, EV.v_callF, EV.v_callIo, EV.v_callT, EV.v_callv, EV.v_nil, EV.v_cons, EV.v_seq, EV.v_enum, EV.v_zip, EV.v_rng1, EV.v_C, s_asg', s_asgO', s_asg2', s_expr', s_ret', s_retN', s_if', s_raise', ss_nil', ss_cons', r_ok, r_exc, r_opt, t_nm, cr_ok, cr_exc, cr_okS, List.getD_cons_zero, List.getD_cons_succ, List.set_cons_zero, List.set_cons_succ, B.pre, B.ev, Cm.ev, U.ev, D.truth, D.toInt, D.items, if_true, if_false, Bool.not_true, Bool.not_false, reduceCtorEq, Option.map_some, Option.bind_some, List.length_cons, List.length_nil, Nat.zero_add, Nat.reduceAdd, Nat.reduceLT, Nat.reduceLeDiff, Bool.and_true, Bool.true_and, decide_true, hsp, hk, hin, eq_ii, i2, at0, at1, hq]
        rfl
      | false =>
        rw [he] at hq
        simp only [EV.v_lit, EV.v_var, EV.v_glob, EV.v_fn, EV.v_un, EV.v_bin, EV.v_slL, EV.v_slH, EV.v_slLH, EV.v_tup, EV.v_lst, EV.v_and, EV.v_or, EV.v_not, EV.v_ite, EV.v_chain, EV.v_call, EV.v_callF, EV.v_callIo, EV.v_callT, EV.v_callv, EV.v_nil, EV.v_cons, EV.v_seq, EV.v_enum, EV.v_zip, EV.v_rng1, EV.v_C, s_asg', s_asgO', s_asg2', s_expr', s_ret', s_retN', s_if', s_raise', ss_nil', ss_cons', r_ok, r_exc, r_opt, t_nm, cr_ok, cr_exc, cr_okS, List.getD_cons_zero, List.getD_cons_succ, List.set_cons_zero, List.set_cons_succ, B.pre, B.ev, Cm.ev, U.ev, D.truth, D.toInt, D.items, if_true, if_false, Bool.not_true, Bool.not_false, reduceCtorEq, Option.map_some, Option.bind_some, List.length_cons, List.length_nil, Nat.zero_add, Nat.reduceAdd, Nat.reduceLT, Nat.reduceLeDiff, Bool.and_true, Bool.true_and, decide_true, hsp, hk, hin, eq_ii, i2, at0, at1, hq]
        rfl
  · have i2 : (((((parts [32, 116, 111, 32] s).map D.str).length : Nat) : Int) == 2) = false := by rw [beq_eq_false_iff_ne, ← hlen]; omega
    simp only [EV.v_lit, EV.v_var, EV.v_glob, EV.v_fn, EV.v_un, EV.v_bin, EV.v_slL, EV.v_slH, EV.v_slLH, EV.v_tup, EV.v_lst, EV.v_and, EV.v_or, EV.v_not, EV.v_ite, EV.v_chain, EV.v_call, EV.v_callF, EV.v_callIo, EV.v_callT, EV.v_callv, EV.v_nil, EV.v_cons, EV.v_seq, EV.v_enum, EV.v_zip, EV.v_rng1, EV.v_C, s_asg', s_asgO', s_asg2', s_expr', s_ret', s_retN', s_if', s_raise', ss_nil', ss_cons', r_ok, r_exc, r_opt, t_nm, cr_ok, cr_exc, cr_okS, List.getD_cons_zero, List.getD_cons_succ, List.set_cons_zero, List.set_cons_succ, B.pre, B.ev, Cm.ev, U.ev, D.truth, D.toInt, D.items, if_true, if_false, Bool.not_true, Bool.not_false, reduceCtorEq, Option.map_some, Option.bind_some, List.length_cons, List.length_nil, Nat.zero_add, Nat.reduceAdd, Nat.reduceLT, Nat.reduceLeDiff, Bool.and_true, Bool.true_and, decide_true, hsp, hk, eq_ii, i2]
    split
    · rename_i a b
      exact absurd rfl c2
    · rfl
/-- rules read are rules, as they are written -/
theorem ruleOf_ok {s : List Nat} {r : Rl} (hl : s.length ≤ 178) (h : ruleOf s = some r) : r.Ok 60 ∧ r.text = s ∧ 2 ≤ s.count 32 := by
  have hj := parts_join (S := [32, 116, 111, 32]) (s := s) (by decide)
  have hps : ∀ p ∈ parts [32, 116, 111, 32] s, p.length ≤ s.length := fun p hp => part_le hp
  unfold ruleOf at h
  generalize parts [32, 116, 111, 32] s = ps at h hj hps
  split at h
  · rename_i a b he
    obtain ⟨p, q, rfl⟩ : ∃ p q, ps = [p, q] := by
      match ps, congrArg List.length he with
      | [p, q], _ => exact ⟨p, q, rfl⟩
    simp only [List.map_cons, List.map_nil, List.cons.injEq, and_true] at he
    obtain ⟨a1, a2⟩ := wholeT_ok (by have := hps p (by simp); omega) he.1
    obtain ⟨b1, b2⟩ := wholeT_ok (by have := hps q (by simp); omega) he.2
    split at h
    · cases h
    · rename_i hne
      cases h
      have ht : Rl.text ⟨a, b⟩ = s := by
        show a.text ++ [32, 116, 111, 32] ++ b.text = s
        rw [a2, b2, ← hj]
        show p ++ [32, 116, 111, 32] ++ q = p ++ ([32, 116, 111, 32] ++ q)
        rw [List.append_assoc]
      refine ⟨⟨a1, b1, ?_⟩, ht, ?_⟩
      · rw [eq_some a1.gd b1.gd (by decide)]
        simpa using hne
      · rw [← ht]
        show 2 ≤ (a.text ++ [32, 116, 111, 32] ++ b.text).count 32
        rw [List.count_append, List.count_append]
        have : ([32, 116, 111, 32] : List Nat).count 32 = 2 := by decide
        omega
  · cases h
end K49
end
section
set_option autoImplicit false
/-! Q49a: books read. -/
namespace K49
open PySem EV

def allSome {α : Type} (os : List (Option α)) : Option (List α) := if os.all Option.isSome = true then some (os.filterMap id) else none
theorem allSome_map {α : Type} (as : List α) : allSome (as.map some) = some as := by
  unfold allSome
  rw [if_pos (by simp)]
  congr 1
  induction as with
  | nil => rfl
  | cons a as ih => rw [List.map_cons, List.filterMap_cons]; simp only [id]; rw [ih]
theorem allSome_no {α : Type} {os : List (Option α)} (h : os.all Option.isSome = false) : allSome os = none := by
  unfold allSome
  rw [if_neg (by rw [h]; exact Bool.false_ne_true)]
theorem allSome_of {α : Type} {os : List (Option α)} {as : List α} (h : allSome os = some as) : os = as.map some := by
  cases hb : os.all Option.isSome with
  | false => rw [allSome_no hb] at h; cases h
  | true =>
    obtain ⟨bs, rfl⟩ := all_some hb
    rw [allSome_map] at h
    cases h
    rfl
theorem manyD_eq {α : Type} (f : α → EV.D) (os : List (Option α)) : manyD f os = oD (fun as => .tup (as.map f)) (allSome os) := by
  unfold manyD
  cases hb : os.all Option.isSome with
  | false => rw [allSome_no hb]; rfl
  | true =>
    obtain ⟨as, rfl⟩ := all_some hb
    rw [allSome_map, map_oD]
    rfl
theorem map_eq_some {α β : Type} {f : α → Option β} {xs : List α} {ys : List β} (h : xs.map f = ys.map some) : ∀ y ∈ ys, ∃ x ∈ xs, f x = some y := fun y hy => by
  have : some y ∈ ys.map some := List.mem_map.mpr ⟨y, hy, rfl⟩
  rw [← h] at this
  obtain ⟨x, hx, e⟩ := List.mem_map.mp this
  exact ⟨x, hx, e⟩
theorem map_texts {α : Type} {f : List Nat → Option α} {g : α → List Nat} : ∀ {xs : List (List Nat)} {ys : List α}, xs.map f = ys.map some → (∀ x ∈ xs, ∀ y, f x = some y → g y = x) → ys.map g = xs
  | [], [], _, _ => rfl
  | [], y :: ys, h, _ => by simp at h
  | x :: xs, [], h, _ => by simp at h
  | x :: xs, y :: ys, h, hg => by
    simp only [List.map_cons, List.cons.injEq] at h
    rw [List.map_cons, hg x List.mem_cons_self y h.1, map_texts h.2 fun x hx => hg x (List.mem_cons_of_mem _ hx)]
theorem join_two : ∀ (ps : List (List Nat)), (∀ p ∈ ps, 2 ≤ p.count 32) → 3 * ps.length ≤ (TL.joinL [59, 32] ps).count 32 + 1
  | [], _ => by simp
  | [p], h => by
    show 3 ≤ p.count 32 + 1
    have := h p List.mem_cons_self
    omega
  | p :: q :: r, h => by
    show 3 * (q :: r).length.succ ≤ (p ++ ([59, 32] ++ TL.joinL [59, 32] (q :: r))).count 32 + 1
    have ih := join_two (q :: r) fun x hx => h x (List.mem_cons_of_mem _ hx)
    have := h p List.mem_cons_self
    have hS : ([59, 32] : List Nat).count 32 = 1 := by decide
    rw [List.count_append, List.count_append]
    omega

def bkD (rs : List Rl) : EV.D := .tup (rs.map Rl.D)
def bookOf (s : List Nat) : Option (List Rl) := if s = [45] then some [] else allSome ((parts [59, 32] s).map ruleOf)
theorem rules_ok {s : List Nat} (hl : s.length ≤ 178) {r : Rl} (h : some r ∈ (parts [59, 32] s).map ruleOf) : r.Ok 60 := by
  obtain ⟨p, hp, hpa⟩ := List.mem_map.mp h
  exact (ruleOf_ok (by have := part_le hp; omega) hpa).1
theorem gd_rl {k : Nat} {r : Rl} (h : r.Ok k) : Gd (k + 1) r.D := gd_tup fun d hd => by
  rcases List.mem_cons.mp hd with rfl | hd
  · exact h.a.gd
  · rcases List.mem_cons.mp hd with rfl | hd
    · exact h.b.gd
    · cases hd
/-- books read are books, as they are written -/
theorem bookOf_ok {s : List Nat} {rs : List Rl} (hl : s.length ≤ 178) (hc : s.count 32 ≤ 13) (h : bookOf s = some rs) : (∀ r ∈ rs, r.Ok 60) ∧ rs.length ≤ 5 ∧ bookText rs = s := by
  unfold bookOf at h
  by_cases c1 : s = [45]
  · rw [if_pos c1] at h
    cases h
    exact ⟨fun _ h => (nomatch h), by decide, c1.symm⟩
  · rw [if_neg c1] at h
    have he := allSome_of h
    have hp2 : ∀ p ∈ parts [59, 32] s, 2 ≤ p.count 32 := fun p hp => by
      have : ruleOf p ∈ (parts [59, 32] s).map ruleOf := List.mem_map.mpr ⟨p, hp, rfl⟩
      rw [he] at this
      obtain ⟨r, _, hr⟩ := List.mem_map.mp this
      exact (ruleOf_ok (by have := part_le hp; omega) hr.symm).2.2
    have h3 := join_two _ hp2
    rw [parts_join (by decide)] at h3
    have hlen : (parts [59, 32] s).length = rs.length := by simpa using congrArg List.length he
    refine ⟨fun r hr => ?_, by omega, ?_⟩
    · exact rules_ok hl (by rw [he]; exact List.mem_map.mpr ⟨r, hr, rfl⟩)
    · have ht := map_texts he fun p hp r hr => (ruleOf_ok (by have := part_le hp; omega) hr).2.1
      unfold bookText
      rw [ht, parts_join (by decide)]
      cases rs with
      | nil => exact absurd (List.length_eq_zero_iff.mp hlen) (spl_ne _ _ _ _)
      | cons r rs => rfl
theorem is_book_60 (n : Nat) {rs : List Rl} (h : ∀ r ∈ rs, r.Ok 60) (h5 : rs.length ≤ 5) : C (n + 184) 8 [.tup (rs.map Rl.D)] = .ok (.bl true) (.tup (rs.map Rl.D)) := is_book_ok h h5 (n + 121)
theorem whole_book_ok (n : Nat) {s : List Nat} (h : Txt s) (hl : s.length ≤ 178) (hc : s.count 32 ≤ 13) : C (n + 185) 26 [.str s] = .ok (oD bkD (bookOf s)) (.str s) := by
  have hp : (parts [59, 32] s).length ≤ 1000 := Nat.le_trans parts_len (by have := h.1; omega)
  have hsp := split_ev (S := [59, 32]) (by decide) (by decide) h.1
  simp only [B.ev] at hsp
  have hbo := fun rs hrs => bookOf_ok (rs := rs) hl hc hrs
  show C (n + 184 + 1) 26 _ = _
  rw [C_succ (di := d26) rfl]
  unfold bookOf at hbo ⊢
  by_cases c1 : s = [45]
  · have q := (eq_dash h).trans (congrArg some (decide_eq_true c1))
    have hin : D.in? .non [] = some false := rfl
    have hb := is_book_60 n (rs := []) (fun _ h => (nomatch h)) (by decide)
    rw [List.map_nil] at hb
    rw [if_pos c1]
    refine run_of (ρ := [some (.str s), some (.tup []), none]) rfl ?_
    show evSs (C (n + 184)) wf0 d26.body [some (.str s), none, none] = _
    unfold d26
    simp only [EV.v_lit, EV.v_var, EV.v_glob, EV.v_fn, EV.v_un, EV.v_bin, EV.v_slL, EV.v_slH, EV.v_slLH, EV.v_tup, EV.v_lst, EV.v_and, EV.v_or, EV.v_not, EV.v_ite, EV.v_chain, EV.v_call, EV.v_callF, EV.v_callIo, EV.v_callT, EV.v_callv, EV.v_nil, EV.v_cons, EV.v_seq, EV.v_enum, EV.v_zip, EV.v_rng1, EV.v_C, s_asg', s_asgO', s_asg2', s_expr', s_ret', s_retN', s_if', s_raise', ss_nil', ss_cons', r_ok, r_exc, r_opt, t_nm, cr_ok, cr_exc, cr_okS, List.getD_cons_zero, List.getD_cons_succ, List.set_cons_zero, List.set_cons_succ, B.pre, B.ev, Cm.ev, U.ev, D.truth, D.toInt, D.items, if_true, if_false, Bool.not_true, Bool.not_false, reduceCtorEq, Option.map_some, Option.bind_some, List.length_cons, List.length_nil, Nat.zero_add, Nat.reduceAdd, Nat.reduceLT, Nat.reduceLeDiff, Bool.and_true, Bool.true_and, decide_true, q, hin, hb]
    rfl
  · have q := (eq_dash h).trans (congrArg some (decide_eq_false c1))
    rw [if_neg c1] at hbo ⊢
    have hk : evE (C (n + 184)) (.comp [("part", 2)] (.nm 2) (.seq (.bin .split (.var 0) (.glob "BETWEEN" (.str [59, 32])))) (.call false false 25 (.cons (.var 2) .nil))) [some (.str s), none, none] = .ok (.lst ((parts [59, 32] s).map fun w => oD Rl.D (ruleOf w))) [some (.str s), none, none] := by
      refine comp_one (xs := parts [59, 32] s) (e := .str) (g := fun w => oD Rl.D (ruleOf w)) ?_ (by simp) (len_le hp) fun w hw' => ?_
      · simp only [EV.v_lit, EV.v_var, EV.v_glob, EV.v_fn, EV.v_un, EV.v_bin, EV.v_slL, EV.v_slH, EV.v_slLH, EV.v_tup, EV.v_lst, EV.v_and, EV.v_or, EV.v_not, EV.v_ite, EV.v_chain, EV.v_call, EV.v_callF, EV.v_callIo, EV.v_callT, EV.v_callv, EV.v_nil, EV.v_cons, EV.v_seq, EV.v_enum, EV.v_zip, EV.v_rng1, EV.v_C, s_asg', s_asgO', s_asg2', s_expr', s_ret', s_retN', s_if', s_raise', ss_nil', ss_cons', r_ok, r_exc, r_opt, t_nm, cr_ok, cr_exc, cr_okS, List.getD_cons_zero, List.getD_cons_succ, List.set_cons_zero, List.set_cons_succ, B.pre, B.ev, Cm.ev, U.ev, D.truth, D.toInt, D.items, if_true, if_false, Bool.not_true, Bool.not_false, reduceCtorEq, Option.map_some, Option.bind_some, List.length_cons, List.length_nil, Nat.zero_add, Nat.reduceAdd, Nat.reduceLT, Nat.reduceLeDiff, Bool.and_true, Bool.true_and, decide_true, hsp]
      · simp only [EV.v_lit, EV.v_var, EV.v_glob, EV.v_fn, EV.v_un, EV.v_bin, EV.v_slL, EV.v_slH, EV.v_slLH, EV.v_tup, EV.v_lst, EV.v_and, EV.v_or, EV.v_not, EV.v_ite, EV.v_chain, EV.v_call, EV.v_callF, EV.v_callIo, EV.v_callT, EV.v_callv, EV.v_nil, EV.v_cons, EV.v_seq, EV.v_enum, EV.v_zip, EV.v_rng1, EV.v_C, s_asg', s_asgO', s_asg2', s_expr', s_ret', s_retN', s_if', s_raise', ss_nil', ss_cons', r_ok, r_exc, r_opt, t_nm, cr_ok, cr_exc, cr_okS, List.getD_cons_zero, List.getD_cons_succ, List.set_cons_zero, List.set_cons_succ, B.pre, B.ev, Cm.ev, U.ev, D.truth, D.toInt, D.items, if_true, if_false, Bool.not_true, Bool.not_false, reduceCtorEq, Option.map_some, Option.bind_some, List.length_cons, List.length_nil, Nat.zero_add, Nat.reduceAdd, Nat.reduceLT, Nat.reduceLeDiff, Bool.and_true, Bool.true_and, decide_true, whole_rule_ok n (parts_txt h w hw') (by have := part_le hw'; omega)]
    have e1 : ((parts [59, 32] s).map fun w => oD Rl.D (ruleOf w)) = ((parts [59, 32] s).map ruleOf).map (oD Rl.D) := by
      rw [List.map_map]
      rfl
    rw [e1] at hk
    have hin := in_many (f := Rl.D) (k := 61) (fun a => rfl) (os := (parts [59, 32] s).map ruleOf) (fun a ha => gd_rl (rules_ok hl ha)) (by decide)
    generalize (parts [59, 32] s).map ruleOf = os at hk hin hbo
    refine run_of (ρ := [some (.str s), some (.tup (os.map (oD Rl.D))), none]) rfl ?_
    show evSs (C (n + 184)) wf0 d26.body [some (.str s), none, none] = _
    unfold d26
    cases hb : os.all Option.isSome with
    | false =>
      rw [hb] at hin
      rw [allSome_no hb]
      simp only [EV.v_lit, EV.v_var, EV.v_glob, EV.v_fn, EV.v_un, EV.v_bin, EV.v_slL, EV.v_slH, EV.v_slLH, EV.v_tup, EV.v_lst, EV.v_and, EV.v_or, EV.v_not, EV.v_ite, EV.v_chain, EV.v_call, EV.v_callF, EV.v_callIo, EV.v_callT, EV.v_callv, EV.v_nil, EV.v_cons, EV.v_seq, EV.v_enum, EV.v_zip, EV.v_rng1, EV.v_C, s_asg', s_asgO', s_asg2', s_expr', s_ret', s_retN', s_if', s_raise', ss_nil', ss_cons', r_ok, r_exc, r_opt, t_nm, cr_ok, cr_exc, cr_okS, List.getD_cons_zero, List.getD_cons_succ, List.set_cons_zero, List.set_cons_succ, B.pre, B.ev, Cm.ev, U.ev, D.truth, D.toInt, D.items, if_true, if_false, Bool.not_true, Bool.not_false, reduceCtorEq, Option.map_some, Option.bind_some, List.length_cons, List.length_nil, Nat.zero_add, Nat.reduceAdd, Nat.reduceLT, Nat.reduceLeDiff, Bool.and_true, Bool.true_and, decide_true, q, hk, hin]
      rfl
    | true =>
      rw [hb] at hin
      obtain ⟨as, rfl⟩ := all_some hb
      rw [allSome_map] at hbo ⊢
      rw [map_oD] at hk hin ⊢
      obtain ⟨g1, g2, _⟩ := hbo as rfl
      have hr := is_book_60 n g1 g2
      simp only [EV.v_lit, EV.v_var, EV.v_glob, EV.v_fn, EV.v_un, EV.v_bin, EV.v_slL, EV.v_slH, EV.v_slLH, EV.v_tup, EV.v_lst, EV.v_and, EV.v_or, EV.v_not, EV.v_ite, EV.v_chain, EV.v_call, EV.v_callF, EV.v_callIo, EV.v_callT, EV.v_callv, EV.v_nil, EV.v_cons, EV.v_seq, EV.v_enum, EV.v_zip, EV.v_rng1, EV.v_C, s_asg', s_asgO', s_asg2', s_expr', s_ret', s_retN', s_if', s_raise', ss_nil', ss_cons', r_ok, r_exc, r_opt, t_nm, cr_ok, cr_exc, cr_okS, List.getD_cons_zero, List.getD_cons_succ, List.set_cons_zero, List.set_cons_succ, B.pre, B.ev, Cm.ev, U.ev, D.truth, D.toInt, D.items, if_true, if_false, Bool.not_true, Bool.not_false, reduceCtorEq, Option.map_some, Option.bind_some, List.length_cons, List.length_nil, Nat.zero_add, Nat.reduceAdd, Nat.reduceLT, Nat.reduceLeDiff, Bool.and_true, Bool.true_and, decide_true, q, hk, hin, hr]
      rfl
end K49
end
section
set_option autoImplicit false
/-! Q49b: what is heard. -/
namespace K49
open PySem EV

theorem found_non (n : Nat) (s : List Nat) : C (n + 1) 31 [.non, .str s] = .exc ⟨0, some (.str s)⟩ .non := by
  rw [C_succ (di := d31) rfl]
  refine run_exc (ρ := [some .non, some (.str s)]) rfl ?_
  show evSs (C n) wf0 d31.body [some .non, some (.str s)] = _
  unfold d31
  simp only [EV.v_lit, EV.v_var, EV.v_glob, EV.v_fn, EV.v_un, EV.v_bin, EV.v_slL, EV.v_slH, EV.v_slLH, EV.v_tup, EV.v_lst, EV.v_and, EV.v_or, EV.v_not, EV.v_ite, EV.v_chain, EV.v_call, EV.v_callF, EV.v_callIo, EV.v_callT, EV.v_callv, EV.v_nil, EV.v_cons, EV.v_seq, EV.v_enum, EV.v_zip, EV.v_rng1, EV.v_C, s_asg', s_asgO', s_asg2', s_expr', s_ret', s_retN', s_if', s_raise', ss_nil', ss_cons', r_ok, r_exc, r_opt, t_nm, cr_ok, cr_exc, cr_okS, List.getD_cons_zero, List.getD_cons_succ, List.set_cons_zero, List.set_cons_succ, B.pre, B.ev, Cm.ev, U.ev, D.truth, D.toInt, D.items, if_true, if_false, Bool.not_true, Bool.not_false, reduceCtorEq, Option.map_some, Option.bind_some, List.length_cons, List.length_nil, Nat.zero_add, Nat.reduceAdd, Nat.reduceLT, Nat.reduceLeDiff, Bool.and_true, Bool.true_and, decide_true, s_raise']
theorem found_some (n : Nat) (s : List Nat) {d : D} (hd : isNon d = false) : C (n + 1) 31 [d, .str s] = .ok d d := by
  rw [C_succ (di := d31) rfl]
  refine run_of (ρ := [some d, some (.str s)]) rfl ?_
  show evSs (C n) wf0 d31.body [some d, some (.str s)] = _
  unfold d31
  cases d <;> first | exact absurd hd (by decide) | simp only [EV.v_lit, EV.v_var, EV.v_glob, EV.v_fn, EV.v_un, EV.v_bin, EV.v_slL, EV.v_slH, EV.v_slLH, EV.v_tup, EV.v_lst, EV.v_and, EV.v_or, EV.v_not, EV.v_ite, EV.v_chain, EV.v_call, EV.v_callF, EV.v_callIo, EV.v_callT, EV.v_callv, EV.v_nil, EV.v_cons, EV.v_seq, EV.v_enum, EV.v_zip, EV.v_rng1, EV.v_C, s_asg', s_asgO', s_asg2', s_expr', s_ret', s_retN', s_if', s_raise', ss_nil', ss_cons', r_ok, r_exc, r_opt, t_nm, cr_ok, cr_exc, cr_okS, List.getD_cons_zero, List.getD_cons_succ, List.set_cons_zero, List.set_cons_succ, B.pre, B.ev, Cm.ev, U.ev, D.truth, D.toInt, D.items, if_true, if_false, Bool.not_true, Bool.not_false, reduceCtorEq, Option.map_some, Option.bind_some, List.length_cons, List.length_nil, Nat.zero_add, Nat.reduceAdd, Nat.reduceLT, Nat.reduceLeDiff, Bool.and_true, Bool.true_and, decide_true]
def inBody (f : Nat) : Ss := .cons (.expr (.call false false 4 (.cons (.un .isStr (.var 0)) .nil))) (.cons (.ret (.call false false 31 (.cons (.call false false f (.cons (.var 0) .nil)) (.cons (.var 0) .nil)))) .nil)
def inD (o : Option D) (s : List Nat) : CR := match o with
  | some d => .ok d (.str s)
  | none => .exc ⟨0, some (.str s)⟩ (.str s)
theorem in_gen (n f g : Nat) {s : List Nat} {di : DefI} {o : Option D} (hdi : prg.defs[g]? = some di) (hb : di.body = inBody f) (hN : di.N = (["text"] : List Str)) (hp : di.np = 1) (ho : ∀ d, o = some d → isNon d = false) (hr : C (n + 1) f [.str s] = .ok (o.getD .non) (.str s)) : C (n + 2) g [.str s] = inD o s := by
  show C (n + 1 + 1) g _ = _
  rw [C_succ hdi]
  have hs : startE di.N [.str s] = [some (.str s)] := by rw [hN]; rfl
  cases o with
  | none =>
    have hr : C (n + 1) f [.str s] = .ok .non (.str s) := hr
    refine run_exc (ρ := [some (.str s)]) hp.symm ?_
    rw [hb, hs]
    unfold inBody
    simp only [EV.v_lit, EV.v_var, EV.v_glob, EV.v_fn, EV.v_un, EV.v_bin, EV.v_slL, EV.v_slH, EV.v_slLH, EV.v_tup, EV.v_lst, EV.v_and, EV.v_or, EV.v_not, EV.v_ite, EV.v_chain, EV.v_call, EV.v_callF, EV.v_callIo, EV.v_callT, EV.v_callv, EV.v_nil, EV.v_cons, EV.v_seq, EV.v_enum, EV.v_zip, EV.v_rng1, EV.v_C, s_asg', s_asgO', s_asg2', s_expr', s_ret', s_retN', s_if', s_raise', ss_nil', ss_cons', r_ok, r_exc, r_opt, t_nm, cr_ok, cr_exc, cr_okS, List.getD_cons_zero, List.getD_cons_succ, List.set_cons_zero, List.set_cons_succ, B.pre, B.ev, Cm.ev, U.ev, D.truth, D.toInt, D.items, if_true, if_false, Bool.not_true, Bool.not_false, reduceCtorEq, Option.map_some, Option.bind_some, List.length_cons, List.length_nil, Nat.zero_add, Nat.reduceAdd, Nat.reduceLT, Nat.reduceLeDiff, Bool.and_true, Bool.true_and, decide_true, D.isa, D.ty, beq_self_eq_true, sure_ok, hr, found_non]
  | some d =>
    have hr : C (n + 1) f [.str s] = .ok d (.str s) := hr
    have hf := found_some n s (ho d rfl)
    refine run_of (ρ := [some (.str s)]) hp.symm ?_
    rw [hb, hs]
    unfold inBody
    simp only [EV.v_lit, EV.v_var, EV.v_glob, EV.v_fn, EV.v_un, EV.v_bin, EV.v_slL, EV.v_slH, EV.v_slLH, EV.v_tup, EV.v_lst, EV.v_and, EV.v_or, EV.v_not, EV.v_ite, EV.v_chain, EV.v_call, EV.v_callF, EV.v_callIo, EV.v_callT, EV.v_callv, EV.v_nil, EV.v_cons, EV.v_seq, EV.v_enum, EV.v_zip, EV.v_rng1, EV.v_C, s_asg', s_asgO', s_asg2', s_expr', s_ret', s_retN', s_if', s_raise', ss_nil', ss_cons', r_ok, r_exc, r_opt, t_nm, cr_ok, cr_exc, cr_okS, List.getD_cons_zero, List.getD_cons_succ, List.set_cons_zero, List.set_cons_succ, B.pre, B.ev, Cm.ev, U.ev, D.truth, D.toInt, D.items, if_true, if_false, Bool.not_true, Bool.not_false, reduceCtorEq, Option.map_some, Option.bind_some, List.length_cons, List.length_nil, Nat.zero_add, Nat.reduceAdd, Nat.reduceLT, Nat.reduceLeDiff, Bool.and_true, Bool.true_and, decide_true, D.isa, D.ty, beq_self_eq_true, sure_ok, hr, hf]
theorem atD {ds : List D} {a : Nat} {c : D} (h : ds[a]? = some c) : L2.atI ds (a : Int) = some c := by
  have hl := (List.getElem?_eq_some_iff.mp h).1
  unfold L2.atI L2.ixN
  rw [if_pos (by omega), if_pos (by omega)]
  exact h
def heardD (o : Option D) (s : List Nat) : EV.D := match o with
  | some d => .tup [d]
  | none => .tup [.str [66, 97, 100, 84, 101, 120, 116], .str s]
theorem heard_gen (n door : Nat) {s : List Nat} {o : Option D} (hd : door < 5) (hr : C n (32 + door) [.str s] = inD o s) : C (n + 1) 42 [.int (door : Nat), .str s] = .ok (heardD o s) (.int (door : Nat)) := by
  rw [C_succ (di := d42) rfl]
  have hat : L2.atI [D.fn 32, .fn 33, .fn 34, .fn 35, .fn 36] ((door : Nat) : Int) = some (.fn (32 + door)) := atD (by
    match door, hd with
    | 0, _ => rfl
    | 1, _ => rfl
    | 2, _ => rfl
    | 3, _ => rfl
    | 4, _ => rfl)
  have key : ∀ oe : Option D, evS (C n) wf0 (.try_ (.cons (.asg (.nm 2) (.tup (.cons (.callv (.bin .idx (.var 3) (.var 0)) (.cons (.var 1) .nil)) .nil))) .nil) 0 (some 4) (.setP 2 [66, 97, 100, 84, 101, 120, 116])) [some (.int (door : Nat)), some (.str s), some .non, some (.lst [D.fn 32, .fn 33, .fn 34, .fn 35, .fn 36]), none] = .ok .nx [some (.int (door : Nat)), some (.str s), some (heardD o s), some (.lst [D.fn 32, .fn 33, .fn 34, .fn 35, .fn 36]), none] := by
    intro _
    cases o with
    | none =>
      have hr : C n (32 + door) [.str s] = .exc ⟨0, some (.str s)⟩ (.str s) := hr
      have hb : evSs (C n) wf0 (.cons (.asg (.nm 2) (.tup (.cons (.callv (.bin .idx (.var 3) (.var 0)) (.cons (.var 1) .nil)) .nil))) .nil) [some (.int (door : Nat)), some (.str s), some .non, some (.lst [D.fn 32, .fn 33, .fn 34, .fn 35, .fn 36]), none] = .exc ⟨0, some (.str s)⟩ [some (.int (door : Nat)), some (.str s), some .non, some (.lst [D.fn 32, .fn 33, .fn 34, .fn 35, .fn 36]), none] := by
        simp only [EV.v_lit, EV.v_var, EV.v_glob, EV.v_fn, EV.v_un, EV.v_bin, EV.v_slL, EV.v_slH, EV.v_slLH, EV.v_tup, EV.v_lst, EV.v_and, EV.v_or, EV.v_not, EV.v_ite, EV.v_chain, EV.v_call, EV.v_callF, EV.v_callIo, EV.v_callT, EV.v_callv, EV.v_nil, EV.v_cons, EV.v_seq, EV.v_enum, EV.v_zip, EV.v_rng1, EV.v_C, s_asg', s_asgO', s_asg2', s_expr', s_ret', s_retN', s_if', s_raise', ss_nil', ss_cons', r_ok, r_exc, r_opt, t_nm, cr_ok, cr_exc, cr_okS, List.getD_cons_zero, List.getD_cons_succ, List.set_cons_zero, List.set_cons_succ, B.pre, B.ev, Cm.ev, U.ev, D.truth, D.toInt, D.items, if_true, if_false, Bool.not_true, Bool.not_false, reduceCtorEq, Option.map_some, Option.bind_some, List.length_cons, List.length_nil, Nat.zero_add, Nat.reduceAdd, Nat.reduceLT, Nat.reduceLeDiff, Bool.and_true, Bool.true_and, decide_true, hat, hr]
      show (match evSs _ _ _ _ with | .exc x ρ1 => _ | r => r) = _
      rw [hb]
      rfl
    | some d =>
      have hr : C n (32 + door) [.str s] = .ok d (.str s) := hr
      have hb : evSs (C n) wf0 (.cons (.asg (.nm 2) (.tup (.cons (.callv (.bin .idx (.var 3) (.var 0)) (.cons (.var 1) .nil)) .nil))) .nil) [some (.int (door : Nat)), some (.str s), some .non, some (.lst [D.fn 32, .fn 33, .fn 34, .fn 35, .fn 36]), none] = .ok .nx [some (.int (door : Nat)), some (.str s), some (.tup [d]), some (.lst [D.fn 32, .fn 33, .fn 34, .fn 35, .fn 36]), none] := by
        simp only [EV.v_lit, EV.v_var, EV.v_glob, EV.v_fn, EV.v_un, EV.v_bin, EV.v_slL, EV.v_slH, EV.v_slLH, EV.v_tup, EV.v_lst, EV.v_and, EV.v_or, EV.v_not, EV.v_ite, EV.v_chain, EV.v_call, EV.v_callF, EV.v_callIo, EV.v_callT, EV.v_callv, EV.v_nil, EV.v_cons, EV.v_seq, EV.v_enum, EV.v_zip, EV.v_rng1, EV.v_C, s_asg', s_asgO', s_asg2', s_expr', s_ret', s_retN', s_if', s_raise', ss_nil', ss_cons', r_ok, r_exc, r_opt, t_nm, cr_ok, cr_exc, cr_okS, List.getD_cons_zero, List.getD_cons_succ, List.set_cons_zero, List.set_cons_succ, B.pre, B.ev, Cm.ev, U.ev, D.truth, D.toInt, D.items, if_true, if_false, Bool.not_true, Bool.not_false, reduceCtorEq, Option.map_some, Option.bind_some, List.length_cons, List.length_nil, Nat.zero_add, Nat.reduceAdd, Nat.reduceLT, Nat.reduceLeDiff, Bool.and_true, Bool.true_and, decide_true, hat, hr]
      show (match evSs _ _ _ _ with | .exc x ρ1 => _ | r => r) = _
      rw [hb]
      rfl
  have key := key o
  refine run_of (ρ := [some (.int (door : Nat)), some (.str s), some (heardD o s), some (.lst [D.fn 32, .fn 33, .fn 34, .fn 35, .fn 36]), none]) rfl ?_
  show evSs (C n) wf0 d42.body [some (.int (door : Nat)), some (.str s), none, none, none] = _
  unfold d42
  simp only [EV.v_lit, EV.v_var, EV.v_glob, EV.v_fn, EV.v_un, EV.v_bin, EV.v_slL, EV.v_slH, EV.v_slLH, EV.v_tup, EV.v_lst, EV.v_and, EV.v_or, EV.v_not, EV.v_ite, EV.v_chain, EV.v_call, EV.v_callF, EV.v_callIo, EV.v_callT, EV.v_callv, EV.v_nil, EV.v_cons, EV.v_seq, EV.v_enum, EV.v_zip, EV.v_rng1, EV.v_C, s_asg', s_asgO', s_asg2', s_expr', s_ret', s_retN', s_if', s_raise', ss_nil', ss_cons', r_ok, r_exc, r_opt, t_nm, cr_ok, cr_exc, cr_okS, List.getD_cons_zero, List.getD_cons_succ, List.set_cons_zero, List.set_cons_succ, B.pre, B.ev, Cm.ev, U.ev, D.truth, D.toInt, D.items, if_true, if_false, Bool.not_true, Bool.not_false, reduceCtorEq, Option.map_some, Option.bind_some, List.length_cons, List.length_nil, Nat.zero_add, Nat.reduceAdd, Nat.reduceLT, Nat.reduceLeDiff, Bool.and_true, Bool.true_and, decide_true, v_fn, key]
end K49
end
section
set_option autoImplicit false
/-! Q49c: all doors. -/
namespace K49
open PySem EV

def rowOf (s : List Nat) : Option (List (List Nat)) := if s = [45] then some [] else if (parts [32] s).all okNum = true then some (parts [32] s) else none
theorem rowD_eq (s : List Nat) : rowD s = oD numT (rowOf s) := by
  unfold rowD rowOf numsD
  by_cases c : s = [45]
  · rw [if_pos c, if_pos c]; rfl
  · rw [if_neg c, if_neg c]
    cases (parts [32] s).all okNum <;> rfl
def rnD (ss : List Stp) : EV.D := .tup (ss.map Stp.D)
def runO (s : List Nat) : Option (List Stp) := if s = [45] then some [] else allSome ((parts [32] s).map stepOf)
theorem runOf_eq (s : List Nat) : runOf s = oD rnD (runO s) := by
  unfold runOf runO
  by_cases c : s = [45]
  · rw [if_pos c, if_pos c]; rfl
  · rw [if_neg c, if_neg c, manyD_eq]
    rfl
/-- what a text writes, behind its door -/
def valD (door : Nat) (s : List Nat) : Option EV.D := match door with
  | 0 => (wholeT s).map T.D
  | 1 => (ruleOf s).map Rl.D
  | 2 => (bookOf s).map bkD
  | 3 => (rowOf s).map numT
  | _ => (runO s).map rnD
theorem oD_getD {α : Type} (f : α → EV.D) (o : Option α) : oD f o = (o.map f).getD .non := by cases o <;> rfl
theorem map_some {α : Type} {f : α → EV.D} {o : Option α} (hf : ∀ a, isNon (f a) = false) : ∀ d, o.map f = some d → isNon d = false := fun d h => by
  cases o with
  | none => cases h
  | some a => cases h; exact hf a
theorem in_ok (n : Nat) {s : List Nat} (h : Txt s) (hl : s.length ≤ 178) (hc : s.count 32 ≤ 13) : ∀ door, door < 5 → C (n + 187) (32 + door) [.str s] = inD (valD door s) s
  | 0, _ => in_gen (n + 185) 24 32 (di := d32) rfl rfl rfl rfl (map_some fun a => by cases a; rw [T.D_mk]; rfl) (by show _ = CR.ok (Option.getD ((wholeT s).map T.D) .non) _; rw [← oD_getD, ← wtD_oD]; exact wt (n + 3) h (by omega))
  | 1, _ => in_gen (n + 185) 25 33 (di := d33) rfl rfl rfl rfl (map_some fun a => rfl) (by show _ = CR.ok (Option.getD ((ruleOf s).map Rl.D) .non) _; rw [← oD_getD]; exact whole_rule_ok (n + 2) h hl)
  | 2, _ => in_gen (n + 185) 26 34 (di := d34) rfl rfl rfl rfl (map_some fun a => rfl) (by show _ = CR.ok (Option.getD ((bookOf s).map bkD) .non) _; rw [← oD_getD]; exact whole_book_ok (n + 1) h hl hc)
  | 3, _ => in_gen (n + 185) 28 35 (di := d35) rfl rfl rfl rfl (map_some fun a => rfl) (by show _ = CR.ok (Option.getD ((rowOf s).map numT) .non) _; rw [← oD_getD, ← rowD_eq]; exact whole_row_ok (n + 183) h)
  | 4, _ => in_gen (n + 185) 30 36 (di := d36) rfl rfl rfl rfl (map_some fun a => rfl) (by show _ = CR.ok (Option.getD ((runO s).map rnD) .non) _; rw [← oD_getD, ← runOf_eq]; exact whole_run_ok (n + 182) h)
theorem heard_ok (n : Nat) {s : List Nat} (h : Txt s) (hl : s.length ≤ 178) (hc : s.count 32 ≤ 13) {door : Nat} (hd : door < 5) : C (n + 188) 42 [.int (door : Nat), .str s] = .ok (heardD (valD door s) s) (.int (door : Nat)) := heard_gen (n + 187) door hd (in_ok n h hl hc door hd)

/-! ### the law's own -/
def readD (o : Option D) : EV.D := match o with
  | some d => .lst [d]
  | none => .non
theorem read0 (n : Nat) {s : List Nat} (h : Txt s) (hl : s.length ≤ 178) : C (n + 186) 50 [.int 0, .str s] = .ok (readD (valD 0 s)) (.int 0) := by
  have hr := lwt (n + 2) h (by omega)
  have hr : C (n + 185) 45 [.str s] = .ok (lwD (wholeT s)) (.str s) := hr
  have e1 : lwD (wholeT s) = readD (valD 0 s) := by unfold valD; cases wholeT s <;> rfl
  rw [e1] at hr
  show C (n + 185 + 1) 50 _ = _
  rw [C_succ (di := d50) rfl]
  refine run_of (ρ := [some (.int 0), some (.str s), none, none, none, none, none]) rfl ?_
  show evSs (C (n + 185)) wf0 d50.body [some (.int 0), some (.str s), none, none, none, none, none] = _
  have i1 : decide ((0 : Int) < 2) = true := rfl
  have i2 : ((0 : Int) == 0) = true := rfl
  unfold d50
  simp only [EV.v_lit, EV.v_var, EV.v_glob, EV.v_fn, EV.v_un, EV.v_bin, EV.v_slL, EV.v_slH, EV.v_slLH, EV.v_tup, EV.v_lst, EV.v_and, EV.v_or, EV.v_not, EV.v_ite, EV.v_chain, EV.v_call, EV.v_callF, EV.v_callIo, EV.v_callT, EV.v_callv, EV.v_nil, EV.v_cons, EV.v_seq, EV.v_enum, EV.v_zip, EV.v_rng1, EV.v_C, s_asg', s_asgO', s_asg2', s_expr', s_ret', s_retN', s_if', s_raise', ss_nil', ss_cons', r_ok, r_exc, r_opt, t_nm, cr_ok, cr_exc, cr_okS, List.getD_cons_zero, List.getD_cons_succ, List.set_cons_zero, List.set_cons_succ, B.pre, B.ev, Cm.ev, U.ev, D.truth, D.toInt, D.items, if_true, if_false, Bool.not_true, Bool.not_false, reduceCtorEq, Option.map_some, Option.bind_some, List.length_cons, List.length_nil, Nat.zero_add, Nat.reduceAdd, Nat.reduceLT, Nat.reduceLeDiff, Bool.and_true, Bool.true_and, decide_true, eq_ii, i1, i2, hr]
theorem read1 (n : Nat) {s : List Nat} (h : Txt s) (hl : s.length ≤ 178) : C (n + 186) 50 [.int 1, .str s] = .ok (readD (valD 1 s)) (.int 1) := by
  have hr := law_rule_ok (n + 1) h hl
  have hr : C (n + 185) 46 [.str s] = .ok (oD (fun r => .lst [Rl.D r]) (ruleOf s)) (.str s) := hr
  have e1 : oD (fun r => .lst [Rl.D r]) (ruleOf s) = readD (valD 1 s) := by unfold valD; cases ruleOf s <;> rfl
  rw [e1] at hr
  show C (n + 185 + 1) 50 _ = _
  rw [C_succ (di := d50) rfl]
  refine run_of (ρ := [some (.int 1), some (.str s), none, none, none, none, none]) rfl ?_
  show evSs (C (n + 185)) wf0 d50.body [some (.int 1), some (.str s), none, none, none, none, none] = _
  have i1 : decide ((1 : Int) < 2) = true := rfl
  have i2 : ((1 : Int) == 0) = false := rfl
  unfold d50
  simp only [EV.v_lit, EV.v_var, EV.v_glob, EV.v_fn, EV.v_un, EV.v_bin, EV.v_slL, EV.v_slH, EV.v_slLH, EV.v_tup, EV.v_lst, EV.v_and, EV.v_or, EV.v_not, EV.v_ite, EV.v_chain, EV.v_call, EV.v_callF, EV.v_callIo, EV.v_callT, EV.v_callv, EV.v_nil, EV.v_cons, EV.v_seq, EV.v_enum, EV.v_zip, EV.v_rng1, EV.v_C, s_asg', s_asgO', s_asg2', s_expr', s_ret', s_retN', s_if', s_raise', ss_nil', ss_cons', r_ok, r_exc, r_opt, t_nm, cr_ok, cr_exc, cr_okS, List.getD_cons_zero, List.getD_cons_succ, List.set_cons_zero, List.set_cons_succ, B.pre, B.ev, Cm.ev, U.ev, D.truth, D.toInt, D.items, if_true, if_false, Bool.not_true, Bool.not_false, reduceCtorEq, Option.map_some, Option.bind_some, List.length_cons, List.length_nil, Nat.zero_add, Nat.reduceAdd, Nat.reduceLT, Nat.reduceLeDiff, Bool.and_true, Bool.true_and, decide_true, eq_ii, i1, i2, hr]
theorem read2 (n : Nat) {s : List Nat} (h : Txt s) (hl : s.length ≤ 178) : C (n + 186) 50 [.int 2, .str s] = .ok (readD (valD 2 s)) (.int 2) := by
  show C (n + 185 + 1) 50 _ = _
  rw [C_succ (di := d50) rfl]
  have i1 : decide ((2 : Int) < 2) = false := rfl
  have i2 : ((2 : Int) == 2) = true := rfl
  show _ = CR.ok (readD ((bookOf s).map bkD)) _
  unfold bookOf
  by_cases c1 : s = [45]
  · have q := (eq_dash h).trans (congrArg some (decide_eq_true c1))
    rw [if_pos c1]
    refine run_of (ρ := [some (.int 2), some (.str s), none, none, none, none, none]) rfl ?_
    show evSs (C (n + 185)) wf0 d50.body [some (.int 2), some (.str s), none, none, none, none, none] = _
    unfold d50
    simp only [EV.v_lit, EV.v_var, EV.v_glob, EV.v_fn, EV.v_un, EV.v_bin, EV.v_slL, EV.v_slH, EV.v_slLH, EV.v_tup, EV.v_lst, EV.v_and, EV.v_or, EV.v_not, EV.v_ite, EV.v_chain, EV.v_call, EV.v_callF, EV.v_callIo, EV.v_callT, EV.v_callv, EV.v_nil, EV.v_cons, EV.v_seq, EV.v_enum, EV.v_zip, EV.v_rng1, EV.v_C, s_asg', s_asgO', s_asg2', s_expr', s_ret', s_retN', s_if', s_raise', ss_nil', ss_cons', r_ok, r_exc, r_opt, t_nm, cr_ok, cr_exc, cr_okS, List.getD_cons_zero, List.getD_cons_succ, List.set_cons_zero, List.set_cons_succ, B.pre, B.ev, Cm.ev, U.ev, D.truth, D.toInt, D.items, if_true, if_false, Bool.not_true, Bool.not_false, reduceCtorEq, Option.map_some, Option.bind_some, List.length_cons, List.length_nil, Nat.zero_add, Nat.reduceAdd, Nat.reduceLT, Nat.reduceLeDiff, Bool.and_true, Bool.true_and, decide_true, i1, q]
    rfl
  · have q := (eq_dash h).trans (congrArg some (decide_eq_false c1))
    rw [if_neg c1]
    have hp : (parts [59, 32] s).length ≤ 1000 := Nat.le_trans parts_len (by have := h.1; omega)
    have hsp := split_ev (S := [59, 32]) (by decide) (by decide) h.1
    simp only [B.ev] at hsp
    have hk : evE (C (n + 185)) (.comp [("part", 5)] (.nm 5) (.seq (.bin .split (.var 1) (.lit (.str [59, 32])))) (.call false false 46 (.cons (.var 5) .nil))) [some (.int 2), some (.str s), none, none, none, none, none] = .ok (.lst ((parts [59, 32] s).map fun w => oD (fun r => .lst [Rl.D r]) (ruleOf w))) [some (.int 2), some (.str s), none, none, none, none, none] := by
      refine comp_one (xs := parts [59, 32] s) (e := .str) (g := fun w => oD (fun r => .lst [Rl.D r]) (ruleOf w)) ?_ (by simp) (len_le hp) fun w hw' => ?_
      · simp only [EV.v_lit, EV.v_var, EV.v_glob, EV.v_fn, EV.v_un, EV.v_bin, EV.v_slL, EV.v_slH, EV.v_slLH, EV.v_tup, EV.v_lst, EV.v_and, EV.v_or, EV.v_not, EV.v_ite, EV.v_chain, EV.v_call, EV.v_callF, EV.v_callIo, EV.v_callT, EV.v_callv, EV.v_nil, EV.v_cons, EV.v_seq, EV.v_enum, EV.v_zip, EV.v_rng1, EV.v_C, s_asg', s_asgO', s_asg2', s_expr', s_ret', s_retN', s_if', s_raise', ss_nil', ss_cons', r_ok, r_exc, r_opt, t_nm, cr_ok, cr_exc, cr_okS, List.getD_cons_zero, List.getD_cons_succ, List.set_cons_zero, List.set_cons_succ, B.pre, B.ev, Cm.ev, U.ev, D.truth, D.toInt, D.items, if_true, if_false, Bool.not_true, Bool.not_false, reduceCtorEq, Option.map_some, Option.bind_some, List.length_cons, List.length_nil, Nat.zero_add, Nat.reduceAdd, Nat.reduceLT, Nat.reduceLeDiff, Bool.and_true, Bool.true_and, decide_true, hsp]
      · have := law_rule_ok (n + 1) (parts_txt h w hw') (by have := part_le hw'; omega)
        have : C (n + 185) 46 [.str w] = .ok (oD (fun r => .lst [Rl.D r]) (ruleOf w)) (.str w) := this
        simp only [EV.v_lit, EV.v_var, EV.v_glob, EV.v_fn, EV.v_un, EV.v_bin, EV.v_slL, EV.v_slH, EV.v_slLH, EV.v_tup, EV.v_lst, EV.v_and, EV.v_or, EV.v_not, EV.v_ite, EV.v_chain, EV.v_call, EV.v_callF, EV.v_callIo, EV.v_callT, EV.v_callv, EV.v_nil, EV.v_cons, EV.v_seq, EV.v_enum, EV.v_zip, EV.v_rng1, EV.v_C, s_asg', s_asgO', s_asg2', s_expr', s_ret', s_retN', s_if', s_raise', ss_nil', ss_cons', r_ok, r_exc, r_opt, t_nm, cr_ok, cr_exc, cr_okS, List.getD_cons_zero, List.getD_cons_succ, List.set_cons_zero, List.set_cons_succ, B.pre, B.ev, Cm.ev, U.ev, D.truth, D.toInt, D.items, if_true, if_false, Bool.not_true, Bool.not_false, reduceCtorEq, Option.map_some, Option.bind_some, List.length_cons, List.length_nil, Nat.zero_add, Nat.reduceAdd, Nat.reduceLT, Nat.reduceLeDiff, Bool.and_true, Bool.true_and, decide_true, this]
    have e1 : ((parts [59, 32] s).map fun w => oD (fun r => .lst [Rl.D r]) (ruleOf w)) = ((parts [59, 32] s).map ruleOf).map (oD (fun r => .lst [Rl.D r])) := by
      rw [List.map_map]
      rfl
    rw [e1] at hk
    have hin := in_many (f := fun r => .lst [Rl.D r]) (k := 62) (fun a => rfl) (os := (parts [59, 32] s).map ruleOf) (fun a ha => gd_lst fun d hd => by rw [List.mem_singleton.mp hd]; exact gd_rl (rules_ok hl ha)) (by decide)
    have hlen : ((parts [59, 32] s).map ruleOf).length ≤ 1000 := by rw [List.length_map]; exact hp
    generalize (parts [59, 32] s).map ruleOf = os at hk hin hlen
    refine run_of (ρ := [some (.int 2), some (.str s), none, some (.lst (os.map (oD (fun r => .lst [Rl.D r])))), none, none, none]) rfl ?_
    show evSs (C (n + 185)) wf0 d50.body [some (.int 2), some (.str s), none, none, none, none, none] = _
    unfold d50
    cases hb : os.all Option.isSome with
    | false =>
      rw [hb] at hin
      rw [allSome_no hb]
      simp only [EV.v_lit, EV.v_var, EV.v_glob, EV.v_fn, EV.v_un, EV.v_bin, EV.v_slL, EV.v_slH, EV.v_slLH, EV.v_tup, EV.v_lst, EV.v_and, EV.v_or, EV.v_not, EV.v_ite, EV.v_chain, EV.v_call, EV.v_callF, EV.v_callIo, EV.v_callT, EV.v_callv, EV.v_nil, EV.v_cons, EV.v_seq, EV.v_enum, EV.v_zip, EV.v_rng1, EV.v_C, s_asg', s_asgO', s_asg2', s_expr', s_ret', s_retN', s_if', s_raise', ss_nil', ss_cons', r_ok, r_exc, r_opt, t_nm, cr_ok, cr_exc, cr_okS, List.getD_cons_zero, List.getD_cons_succ, List.set_cons_zero, List.set_cons_succ, B.pre, B.ev, Cm.ev, U.ev, D.truth, D.toInt, D.items, if_true, if_false, Bool.not_true, Bool.not_false, reduceCtorEq, Option.map_some, Option.bind_some, List.length_cons, List.length_nil, Nat.zero_add, Nat.reduceAdd, Nat.reduceLT, Nat.reduceLeDiff, Bool.and_true, Bool.true_and, decide_true, i1, i2, eq_ii, q, hk, hin]
      rfl
    | true =>
      rw [hb] at hin
      obtain ⟨as, rfl⟩ := all_some hb
      rw [allSome_map]
      rw [map_oD] at hk hin ⊢
      have hk2 : evE (C (n + 185)) (.comp [("own", 6)] (.nm 6) (.seq (.var 3)) (.bin .idx (.var 6) (.lit (.int 0)))) [some (.int 2), some (.str s), none, some (.lst (as.map fun r => .lst [Rl.D r])), none, none, none] = .ok (.lst (as.map Rl.D)) [some (.int 2), some (.str s), none, some (.lst (as.map fun r => .lst [Rl.D r])), none, none, none] := by
        refine comp_one (xs := as) (e := fun r => .lst [Rl.D r]) (g := Rl.D) ?_ (by simp) (len_le (by simpa using hlen)) fun w hw' => ?_
        · simp only [EV.v_lit, EV.v_var, EV.v_glob, EV.v_fn, EV.v_un, EV.v_bin, EV.v_slL, EV.v_slH, EV.v_slLH, EV.v_tup, EV.v_lst, EV.v_and, EV.v_or, EV.v_not, EV.v_ite, EV.v_chain, EV.v_call, EV.v_callF, EV.v_callIo, EV.v_callT, EV.v_callv, EV.v_nil, EV.v_cons, EV.v_seq, EV.v_enum, EV.v_zip, EV.v_rng1, EV.v_C, s_asg', s_asgO', s_asg2', s_expr', s_ret', s_retN', s_if', s_raise', ss_nil', ss_cons', r_ok, r_exc, r_opt, t_nm, cr_ok, cr_exc, cr_okS, List.getD_cons_zero, List.getD_cons_succ, List.set_cons_zero, List.set_cons_succ, B.pre, B.ev, Cm.ev, U.ev, D.truth, D.toInt, D.items, if_true, if_false, Bool.not_true, Bool.not_false, reduceCtorEq, Option.map_some, Option.bind_some, List.length_cons, List.length_nil, Nat.zero_add, Nat.reduceAdd, Nat.reduceLT, Nat.reduceLeDiff, Bool.and_true, Bool.true_and, decide_true]
        · simp only [EV.v_lit, EV.v_var, EV.v_glob, EV.v_fn, EV.v_un, EV.v_bin, EV.v_slL, EV.v_slH, EV.v_slLH, EV.v_tup, EV.v_lst, EV.v_and, EV.v_or, EV.v_not, EV.v_ite, EV.v_chain, EV.v_call, EV.v_callF, EV.v_callIo, EV.v_callT, EV.v_callv, EV.v_nil, EV.v_cons, EV.v_seq, EV.v_enum, EV.v_zip, EV.v_rng1, EV.v_C, s_asg', s_asgO', s_asg2', s_expr', s_ret', s_retN', s_if', s_raise', ss_nil', ss_cons', r_ok, r_exc, r_opt, t_nm, cr_ok, cr_exc, cr_okS, List.getD_cons_zero, List.getD_cons_succ, List.set_cons_zero, List.set_cons_succ, B.pre, B.ev, Cm.ev, U.ev, D.truth, D.toInt, D.items, if_true, if_false, Bool.not_true, Bool.not_false, reduceCtorEq, Option.map_some, Option.bind_some, List.length_cons, List.length_nil, Nat.zero_add, Nat.reduceAdd, Nat.reduceLT, Nat.reduceLeDiff, Bool.and_true, Bool.true_and, decide_true, at0]
      simp only [EV.v_lit, EV.v_var, EV.v_glob, EV.v_fn, EV.v_un, EV.v_bin, EV.v_slL, EV.v_slH, EV.v_slLH, EV.v_tup, EV.v_lst, EV.v_and, EV.v_or, EV.v_not, EV.v_ite, EV.v_chain, EV.v_call, EV.v_callF, EV.v_callIo, EV.v_callT, EV.v_callv, EV.v_nil, EV.v_cons, EV.v_seq, EV.v_enum, EV.v_zip, EV.v_rng1, EV.v_C, s_asg', s_asgO', s_asg2', s_expr', s_ret', s_retN', s_if', s_raise', ss_nil', ss_cons', r_ok, r_exc, r_opt, t_nm, cr_ok, cr_exc, cr_okS, List.getD_cons_zero, List.getD_cons_succ, List.set_cons_zero, List.set_cons_succ, B.pre, B.ev, Cm.ev, U.ev, D.truth, D.toInt, D.items, if_true, if_false, Bool.not_true, Bool.not_false, reduceCtorEq, Option.map_some, Option.bind_some, List.length_cons, List.length_nil, Nat.zero_add, Nat.reduceAdd, Nat.reduceLT, Nat.reduceLeDiff, Bool.and_true, Bool.true_and, decide_true, i1, i2, eq_ii, q, hk, hin, hk2]
      rfl
theorem read3 (n : Nat) {s : List Nat} (h : Txt s) : C (n + 186) 50 [.int 3, .str s] = .ok (readD (valD 3 s)) (.int 3) := by
  show C (n + 185 + 1) 50 _ = _
  rw [C_succ (di := d50) rfl]
  have i1 : decide ((3 : Int) < 2) = false := rfl
  have i2 : ((3 : Int) == 2) = false := rfl
  have i3 : ((3 : Int) == 3) = true := rfl
  show _ = CR.ok (readD ((rowOf s).map numT)) _
  unfold rowOf
  by_cases c1 : s = [45]
  · have q := (eq_dash h).trans (congrArg some (decide_eq_true c1))
    rw [if_pos c1]
    refine run_of (ρ := [some (.int 3), some (.str s), none, none, none, none, none]) rfl ?_
    show evSs (C (n + 185)) wf0 d50.body [some (.int 3), some (.str s), none, none, none, none, none] = _
    unfold d50
    simp only [EV.v_lit, EV.v_var, EV.v_glob, EV.v_fn, EV.v_un, EV.v_bin, EV.v_slL, EV.v_slH, EV.v_slLH, EV.v_tup, EV.v_lst, EV.v_and, EV.v_or, EV.v_not, EV.v_ite, EV.v_chain, EV.v_call, EV.v_callF, EV.v_callIo, EV.v_callT, EV.v_callv, EV.v_nil, EV.v_cons, EV.v_seq, EV.v_enum, EV.v_zip, EV.v_rng1, EV.v_C, s_asg', s_asgO', s_asg2', s_expr', s_ret', s_retN', s_if', s_raise', ss_nil', ss_cons', r_ok, r_exc, r_opt, t_nm, cr_ok, cr_exc, cr_okS, List.getD_cons_zero, List.getD_cons_succ, List.set_cons_zero, List.set_cons_succ, B.pre, B.ev, Cm.ev, U.ev, D.truth, D.toInt, D.items, if_true, if_false, Bool.not_true, Bool.not_false, reduceCtorEq, Option.map_some, Option.bind_some, List.length_cons, List.length_nil, Nat.zero_add, Nat.reduceAdd, Nat.reduceLT, Nat.reduceLeDiff, Bool.and_true, Bool.true_and, decide_true, i1, q]
    rfl
  · have q := (eq_dash h).trans (congrArg some (decide_eq_false c1))
    rw [if_neg c1]
    have hr := law_numbers_ok (n + 183) (c := 32) (by decide) h
    have hr : C (n + 185) 48 [.str s, .str [32]] = .ok (numsD (parts [32] s)) (.str s) := hr
    refine run_of (ρ := [some (.int 3), some (.str s), none, none, some (numsD (parts [32] s)), none, none]) rfl ?_
    show evSs (C (n + 185)) wf0 d50.body [some (.int 3), some (.str s), none, none, none, none, none] = _
    unfold d50
    unfold numsD at hr ⊢
    cases hb : (parts [32] s).all okNum with
    | true =>
      rw [hb, if_pos rfl] at hr
      simp only [EV.v_lit, EV.v_var, EV.v_glob, EV.v_fn, EV.v_un, EV.v_bin, EV.v_slL, EV.v_slH, EV.v_slLH, EV.v_tup, EV.v_lst, EV.v_and, EV.v_or, EV.v_not, EV.v_ite, EV.v_chain, EV.v_call, EV.v_callF, EV.v_callIo, EV.v_callT, EV.v_callv, EV.v_nil, EV.v_cons, EV.v_seq, EV.v_enum, EV.v_zip, EV.v_rng1, EV.v_C, s_asg', s_asgO', s_asg2', s_expr', s_ret', s_retN', s_if', s_raise', ss_nil', ss_cons', r_ok, r_exc, r_opt, t_nm, cr_ok, cr_exc, cr_okS, List.getD_cons_zero, List.getD_cons_succ, List.set_cons_zero, List.set_cons_succ, B.pre, B.ev, Cm.ev, U.ev, D.truth, D.toInt, D.items, if_true, if_false, Bool.not_true, Bool.not_false, reduceCtorEq, Option.map_some, Option.bind_some, List.length_cons, List.length_nil, Nat.zero_add, Nat.reduceAdd, Nat.reduceLT, Nat.reduceLeDiff, Bool.and_true, Bool.true_and, decide_true, i1, i2, i3, eq_ii, q, hr]
      rfl
    | false =>
      rw [hb, if_neg Bool.false_ne_true] at hr
      simp only [EV.v_lit, EV.v_var, EV.v_glob, EV.v_fn, EV.v_un, EV.v_bin, EV.v_slL, EV.v_slH, EV.v_slLH, EV.v_tup, EV.v_lst, EV.v_and, EV.v_or, EV.v_not, EV.v_ite, EV.v_chain, EV.v_call, EV.v_callF, EV.v_callIo, EV.v_callT, EV.v_callv, EV.v_nil, EV.v_cons, EV.v_seq, EV.v_enum, EV.v_zip, EV.v_rng1, EV.v_C, s_asg', s_asgO', s_asg2', s_expr', s_ret', s_retN', s_if', s_raise', ss_nil', ss_cons', r_ok, r_exc, r_opt, t_nm, cr_ok, cr_exc, cr_okS, List.getD_cons_zero, List.getD_cons_succ, List.set_cons_zero, List.set_cons_succ, B.pre, B.ev, Cm.ev, U.ev, D.truth, D.toInt, D.items, if_true, if_false, Bool.not_true, Bool.not_false, reduceCtorEq, Option.map_some, Option.bind_some, List.length_cons, List.length_nil, Nat.zero_add, Nat.reduceAdd, Nat.reduceLT, Nat.reduceLeDiff, Bool.and_true, Bool.true_and, decide_true, i1, i2, i3, eq_ii, q, hr, Bool.false_eq_true]
      rfl
theorem read4 (n : Nat) {s : List Nat} (h : Txt s) : C (n + 186) 50 [.int 4, .str s] = .ok (readD (valD 4 s)) (.int 4) := by
  show C (n + 185 + 1) 50 _ = _
  rw [C_succ (di := d50) rfl]
  have i1 : decide ((4 : Int) < 2) = false := rfl
  have i2 : ((4 : Int) == 2) = false := rfl
  have i3 : ((4 : Int) == 3) = false := rfl
  show _ = CR.ok (readD ((runO s).map rnD)) _
  unfold runO
  by_cases c1 : s = [45]
  · have q := (eq_dash h).trans (congrArg some (decide_eq_true c1))
    rw [if_pos c1]
    refine run_of (ρ := [some (.int 4), some (.str s), none, none, none, none, none]) rfl ?_
    show evSs (C (n + 185)) wf0 d50.body [some (.int 4), some (.str s), none, none, none, none, none] = _
    unfold d50
    simp only [EV.v_lit, EV.v_var, EV.v_glob, EV.v_fn, EV.v_un, EV.v_bin, EV.v_slL, EV.v_slH, EV.v_slLH, EV.v_tup, EV.v_lst, EV.v_and, EV.v_or, EV.v_not, EV.v_ite, EV.v_chain, EV.v_call, EV.v_callF, EV.v_callIo, EV.v_callT, EV.v_callv, EV.v_nil, EV.v_cons, EV.v_seq, EV.v_enum, EV.v_zip, EV.v_rng1, EV.v_C, s_asg', s_asgO', s_asg2', s_expr', s_ret', s_retN', s_if', s_raise', ss_nil', ss_cons', r_ok, r_exc, r_opt, t_nm, cr_ok, cr_exc, cr_okS, List.getD_cons_zero, List.getD_cons_succ, List.set_cons_zero, List.set_cons_succ, B.pre, B.ev, Cm.ev, U.ev, D.truth, D.toInt, D.items, if_true, if_false, Bool.not_true, Bool.not_false, reduceCtorEq, Option.map_some, Option.bind_some, List.length_cons, List.length_nil, Nat.zero_add, Nat.reduceAdd, Nat.reduceLT, Nat.reduceLeDiff, Bool.and_true, Bool.true_and, decide_true, i1, q]
    rfl
  · have q := (eq_dash h).trans (congrArg some (decide_eq_false c1))
    rw [if_neg c1]
    have hp : (parts [32] s).length ≤ 1000 := Nat.le_trans parts_len (by have := h.1; omega)
    have hsp := split_ev (S := [32]) (by decide) (by decide) h.1
    simp only [B.ev] at hsp
    have hk : evE (C (n + 185)) (.comp [("part", 5)] (.nm 5) (.seq (.bin .split (.var 1) (.lit (.str [32])))) (.call false false 49 (.cons (.var 5) .nil))) [some (.int 4), some (.str s), none, none, none, none, none] = .ok (.lst ((parts [32] s).map fun w => optD (stepOf w))) [some (.int 4), some (.str s), none, none, none, none, none] := by
      refine comp_one (xs := parts [32] s) (e := .str) (g := fun w => optD (stepOf w)) ?_ (by simp) (len_le hp) fun w hw' => ?_
      · simp only [EV.v_lit, EV.v_var, EV.v_glob, EV.v_fn, EV.v_un, EV.v_bin, EV.v_slL, EV.v_slH, EV.v_slLH, EV.v_tup, EV.v_lst, EV.v_and, EV.v_or, EV.v_not, EV.v_ite, EV.v_chain, EV.v_call, EV.v_callF, EV.v_callIo, EV.v_callT, EV.v_callv, EV.v_nil, EV.v_cons, EV.v_seq, EV.v_enum, EV.v_zip, EV.v_rng1, EV.v_C, s_asg', s_asgO', s_asg2', s_expr', s_ret', s_retN', s_if', s_raise', ss_nil', ss_cons', r_ok, r_exc, r_opt, t_nm, cr_ok, cr_exc, cr_okS, List.getD_cons_zero, List.getD_cons_succ, List.set_cons_zero, List.set_cons_succ, B.pre, B.ev, Cm.ev, U.ev, D.truth, D.toInt, D.items, if_true, if_false, Bool.not_true, Bool.not_false, reduceCtorEq, Option.map_some, Option.bind_some, List.length_cons, List.length_nil, Nat.zero_add, Nat.reduceAdd, Nat.reduceLT, Nat.reduceLeDiff, Bool.and_true, Bool.true_and, decide_true, hsp]
      · have := law_step_ok (n + 182) (parts_txt h w hw')
        have : C (n + 185) 49 [.str w] = .ok (optD (stepOf w)) (.str w) := this
        simp only [EV.v_lit, EV.v_var, EV.v_glob, EV.v_fn, EV.v_un, EV.v_bin, EV.v_slL, EV.v_slH, EV.v_slLH, EV.v_tup, EV.v_lst, EV.v_and, EV.v_or, EV.v_not, EV.v_ite, EV.v_chain, EV.v_call, EV.v_callF, EV.v_callIo, EV.v_callT, EV.v_callv, EV.v_nil, EV.v_cons, EV.v_seq, EV.v_enum, EV.v_zip, EV.v_rng1, EV.v_C, s_asg', s_asgO', s_asg2', s_expr', s_ret', s_retN', s_if', s_raise', ss_nil', ss_cons', r_ok, r_exc, r_opt, t_nm, cr_ok, cr_exc, cr_okS, List.getD_cons_zero, List.getD_cons_succ, List.set_cons_zero, List.set_cons_succ, B.pre, B.ev, Cm.ev, U.ev, D.truth, D.toInt, D.items, if_true, if_false, Bool.not_true, Bool.not_false, reduceCtorEq, Option.map_some, Option.bind_some, List.length_cons, List.length_nil, Nat.zero_add, Nat.reduceAdd, Nat.reduceLT, Nat.reduceLeDiff, Bool.and_true, Bool.true_and, decide_true, this]
    have e1 : ((parts [32] s).map fun w => optD (stepOf w)) = ((parts [32] s).map stepOf).map (oD Stp.D) := by
      rw [List.map_map]
      exact List.map_congr_left fun w _ => optD_oD _
    rw [e1] at hk
    have hin := in_many (k := 2) stp_non (os := (parts [32] s).map stepOf) (fun a _ => gd_stp a) (by decide)
    generalize (parts [32] s).map stepOf = os at hk hin
    refine run_of (ρ := [some (.int 4), some (.str s), some (.lst (os.map (oD Stp.D))), none, none, none, none]) rfl ?_
    show evSs (C (n + 185)) wf0 d50.body [some (.int 4), some (.str s), none, none, none, none, none] = _
    unfold d50
    cases hb : os.all Option.isSome with
    | false =>
      rw [hb] at hin
      rw [allSome_no hb]
      simp only [EV.v_lit, EV.v_var, EV.v_glob, EV.v_fn, EV.v_un, EV.v_bin, EV.v_slL, EV.v_slH, EV.v_slLH, EV.v_tup, EV.v_lst, EV.v_and, EV.v_or, EV.v_not, EV.v_ite, EV.v_chain, EV.v_call, EV.v_callF, EV.v_callIo, EV.v_callT, EV.v_callv, EV.v_nil, EV.v_cons, EV.v_seq, EV.v_enum, EV.v_zip, EV.v_rng1, EV.v_C, s_asg', s_asgO', s_asg2', s_expr', s_ret', s_retN', s_if', s_raise', ss_nil', ss_cons', r_ok, r_exc, r_opt, t_nm, cr_ok, cr_exc, cr_okS, List.getD_cons_zero, List.getD_cons_succ, List.set_cons_zero, List.set_cons_succ, B.pre, B.ev, Cm.ev, U.ev, D.truth, D.toInt, D.items, if_true, if_false, Bool.not_true, Bool.not_false, reduceCtorEq, Option.map_some, Option.bind_some, List.length_cons, List.length_nil, Nat.zero_add, Nat.reduceAdd, Nat.reduceLT, Nat.reduceLeDiff, Bool.and_true, Bool.true_and, decide_true, i1, i2, i3, eq_ii, q, hk, hin]
      rfl
    | true =>
      rw [hb] at hin
      obtain ⟨as, rfl⟩ := all_some hb
      rw [allSome_map]
      rw [map_oD] at hk hin ⊢
      simp only [EV.v_lit, EV.v_var, EV.v_glob, EV.v_fn, EV.v_un, EV.v_bin, EV.v_slL, EV.v_slH, EV.v_slLH, EV.v_tup, EV.v_lst, EV.v_and, EV.v_or, EV.v_not, EV.v_ite, EV.v_chain, EV.v_call, EV.v_callF, EV.v_callIo, EV.v_callT, EV.v_callv, EV.v_nil, EV.v_cons, EV.v_seq, EV.v_enum, EV.v_zip, EV.v_rng1, EV.v_C, s_asg', s_asgO', s_asg2', s_expr', s_ret', s_retN', s_if', s_raise', ss_nil', ss_cons', r_ok, r_exc, r_opt, t_nm, cr_ok, cr_exc, cr_okS, List.getD_cons_zero, List.getD_cons_succ, List.set_cons_zero, List.set_cons_succ, B.pre, B.ev, Cm.ev, U.ev, D.truth, D.toInt, D.items, if_true, if_false, Bool.not_true, Bool.not_false, reduceCtorEq, Option.map_some, Option.bind_some, List.length_cons, List.length_nil, Nat.zero_add, Nat.reduceAdd, Nat.reduceLT, Nat.reduceLeDiff, Bool.and_true, Bool.true_and, decide_true, i1, i2, i3, eq_ii, q, hk, hin]
      rfl
theorem read_ok (n : Nat) {s : List Nat} (h : Txt s) (hl : s.length ≤ 178) : ∀ door, door < 5 → C (n + 186) 50 [.int (door : Nat), .str s] = .ok (readD (valD door s)) (.int (door : Nat))
  | 0, _ => read0 n h hl
  | 1, _ => read1 n h hl
  | 2, _ => read2 n h hl
  | 3, _ => read3 n h
  | 4, _ => read4 n h
end K49
end
section
set_option autoImplicit false
/-! Q49d: like data. -/
namespace K49
open PySem EV

inductive Sm : Nat → D → Prop
  | str (k : Nat) {s : List Nat} : (∀ c ∈ s, c < 128) → Sm k (.str s)
  | int (k : Nat) (i : Int) : Sm k (.int i)
  | tup {k : Nat} {ds : List D} : ds.length ≤ 1000 → (∀ d ∈ ds, Sm k d) → Sm (k + 1) (.tup ds)
theorem Sm.mono {k j : Nat} {d : D} (h : Sm k d) (hj : k ≤ j) : Sm j d := by
  induction h generalizing j with
  | str k h => exact .str j h
  | int k i => exact .int j i
  | tup h1 h2 ih =>
    cases j with
    | zero => omega
    | succ j => exact .tup h1 fun d hd => ih d hd (by omega)
theorem zip_self : ∀ ds : List D, zipD ds ds = ds.map fun d => .tup [d, d]
  | [] => rfl
  | d :: ds => by
    show D.tup [d, d] :: zipD ds ds = _
    rw [zip_self ds]
    rfl
theorem law_same_ok : ∀ {k : Nat} {d : D}, Sm k d → ∀ n, C (n + k + 1) 40 [d, d] = .ok (.bl true) d := by
  intro k d h
  have ff : D.eq? (.bl false) (.bl false) = some true := rfl
  have tt : D.eq? (.bl true) (.bl true) = some true := rfl
  induction h with
  | str k h =>
    intro n
    rename_i s
    have q : D.eq? (.str s) (.str s) = some true := by rw [eq_ss h h, decide_eq_true rfl]
    have t1 : (D.str s).isa (fun t => t == "list" || t == "tuple") = some (.bl false) := rfl
    have t2 : (D.str s).isa (fun t => t == "bool" || t == "str") = some (.bl true) := rfl
    have t3 : (D.str s).isa (fun t => t == "bool") = some (.bl false) := rfl
    rw [C_succ (di := d40) rfl]
    refine run_of (ρ := [some (.str s), some (.str s), none, none]) rfl ?_
    show evSs (C (n + k)) wf0 d40.body [some (.str s), some (.str s), none, none] = _
    unfold d40
    simp only [EV.v_lit, EV.v_var, EV.v_glob, EV.v_fn, EV.v_un, EV.v_bin, EV.v_slL, EV.v_slH, EV.v_slLH, EV.v_tup, EV.v_lst, EV.v_and, EV.v_or, EV.v_not, EV.v_ite, EV.v_chain, EV.v_call, EV.v_callF, EV.v_callIo, EV.v_callT, EV.v_callv, EV.v_nil, EV.v_cons, EV.v_seq, EV.v_enum, EV.v_zip, EV.v_rng1, EV.v_C, s_asg', s_asgO', s_asg2', s_expr', s_ret', s_retN', s_if', s_raise', ss_nil', ss_cons', r_ok, r_exc, r_opt, t_nm, cr_ok, cr_exc, cr_okS, List.getD_cons_zero, List.getD_cons_succ, List.set_cons_zero, List.set_cons_succ, B.pre, B.ev, Cm.ev, U.ev, D.truth, D.toInt, D.items, if_true, if_false, Bool.not_true, Bool.not_false, reduceCtorEq, Option.map_some, Option.bind_some, List.length_cons, List.length_nil, Nat.zero_add, Nat.reduceAdd, Nat.reduceLT, Nat.reduceLeDiff, Bool.and_true, Bool.true_and, decide_true, t1, t2, t3, q, ff]
  | int k i =>
    intro n
    have t1 : (D.int i).isa (fun t => t == "list" || t == "tuple") = some (.bl false) := rfl
    have t2 : (D.int i).isa (fun t => t == "bool" || t == "str") = some (.bl false) := rfl
    have t3 : (D.int i).isa (fun t => t == "bool") = some (.bl false) := rfl
    have t4 : (D.int i).isa (fun t => t == "int" || t == "bool") = some (.bl true) := rfl
    rw [C_succ (di := d40) rfl]
    refine run_of (ρ := [some (.int i), some (.int i), none, none]) rfl ?_
    show evSs (C (n + k)) wf0 d40.body [some (.int i), some (.int i), none, none] = _
    unfold d40
    simp only [EV.v_lit, EV.v_var, EV.v_glob, EV.v_fn, EV.v_un, EV.v_bin, EV.v_slL, EV.v_slH, EV.v_slLH, EV.v_tup, EV.v_lst, EV.v_and, EV.v_or, EV.v_not, EV.v_ite, EV.v_chain, EV.v_call, EV.v_callF, EV.v_callIo, EV.v_callT, EV.v_callv, EV.v_nil, EV.v_cons, EV.v_seq, EV.v_enum, EV.v_zip, EV.v_rng1, EV.v_C, s_asg', s_asgO', s_asg2', s_expr', s_ret', s_retN', s_if', s_raise', ss_nil', ss_cons', r_ok, r_exc, r_opt, t_nm, cr_ok, cr_exc, cr_okS, List.getD_cons_zero, List.getD_cons_succ, List.set_cons_zero, List.set_cons_succ, B.pre, B.ev, Cm.ev, U.ev, D.truth, D.toInt, D.items, if_true, if_false, Bool.not_true, Bool.not_false, reduceCtorEq, Option.map_some, Option.bind_some, List.length_cons, List.length_nil, Nat.zero_add, Nat.reduceAdd, Nat.reduceLT, Nat.reduceLeDiff, Bool.and_true, Bool.true_and, decide_true, t1, t2, t3, t4, eq_ii, beq_self_eq_true]
  | @tup k ds h1 h2 ih =>
    intro n
    have t1 : (D.tup ds).isa (fun t => t == "list" || t == "tuple") = some (.bl true) := rfl
    have t2 : (D.tup ds).isa (fun t => t == "list") = some (.bl false) := rfl
    have t3 : (D.tup ds).isa (fun t => t == "tuple") = some (.bl true) := rfl
    have hk : evE (C (n + k + 1)) (.comp [("mine", 2), ("its", 3)] (.tp (.cons (.nm 2) (.cons (.nm 3) .nil))) (.zip (.var 0) (.var 1)) (.call false false 40 (.cons (.var 2) (.cons (.var 3) .nil)))) [some (.tup ds), some (.tup ds), none, none] = .ok (.lst (ds.map fun _ => .bl true)) [some (.tup ds), some (.tup ds), none, none] := by
      have hit : evIt (C (n + k + 1)) (.zip (.var 0) (.var 1)) [some (.tup ds), some (.tup ds), none, none] = .ok (ds.map fun d => .tup [d, d]) [some (.tup ds), some (.tup ds), none, none] := by
        rw [← zip_self]
        rfl
      rw [v_comp, hit]
      show (if (ds.map fun d => D.tup [d, d]).length ≤ sizeLine then _ else _) = _
      rw [if_pos (by rw [List.length_map]; exact len_le h1)]
      show (compGo _ _ [some (.tup ds), some (.tup ds), none, none]).bind _ = _
      rw [compGo_im (g := fun _ => .bl true) fun d hd => ?_]
      · rfl
      · have ht := t_tp2 (i := 2) (j := 3) (d := d) (e := d) (ρ := [some (.tup ds), some (.tup ds), none, none]) (by simp) (by simp)
        show R.calm ((R.opt [some (.tup ds), some (.tup ds), none, none] ((Tg.tp (.cons (.nm 2) (.cons (.nm 3) .nil))).bind (.tup [d, d]) [some (.tup ds), some (.tup ds), none, none])).bind _) = _
        rw [ht]
        show R.calm ((evE (C (n + k + 1)) (.call false false 40 (.cons (.var 2) (.cons (.var 3) .nil))) [some (.tup ds), some (.tup ds), some d, some d]).bind _) = _
        have he : evE (C (n + k + 1)) (.call false false 40 (.cons (.var 2) (.cons (.var 3) .nil))) [some (.tup ds), some (.tup ds), some d, some d] = .ok (.bl true) [some (.tup ds), some (.tup ds), some d, some d] := by
          simp only [EV.v_lit, EV.v_var, EV.v_glob, EV.v_fn, EV.v_un, EV.v_bin, EV.v_slL, EV.v_slH, EV.v_slLH, EV.v_tup, EV.v_lst, EV.v_and, EV.v_or, EV.v_not, EV.v_ite, EV.v_chain, EV.v_call, EV.v_callF, EV.v_callIo, EV.v_callT, EV.v_callv, EV.v_nil, EV.v_cons, EV.v_seq, EV.v_enum, EV.v_zip, EV.v_rng1, EV.v_C, s_asg', s_asgO', s_asg2', s_expr', s_ret', s_retN', s_if', s_raise', ss_nil', ss_cons', r_ok, r_exc, r_opt, t_nm, cr_ok, cr_exc, cr_okS, List.getD_cons_zero, List.getD_cons_succ, List.set_cons_zero, List.set_cons_succ, B.pre, B.ev, Cm.ev, U.ev, D.truth, D.toInt, D.items, if_true, if_false, Bool.not_true, Bool.not_false, reduceCtorEq, Option.map_some, Option.bind_some, List.length_cons, List.length_nil, Nat.zero_add, Nat.reduceAdd, Nat.reduceLT, Nat.reduceLeDiff, Bool.and_true, Bool.true_and, decide_true, ih d hd n]
        rw [he]
        rfl
    have hb : D.bls (ds.map fun _ => .bl true) = some (ds.map fun _ => true) := bls_map (fun _ => true) ds
    have ht : (ds.map fun _ => true).all id = true := all_true fun _ _ => rfl
    show C (n + k + 1 + 1) 40 _ = _
    rw [C_succ (di := d40) rfl]
    refine run_of (ρ := [some (.tup ds), some (.tup ds), none, none]) rfl ?_
    show evSs (C (n + k + 1)) wf0 d40.body [some (.tup ds), some (.tup ds), none, none] = _
    unfold d40
    simp only [EV.v_lit, EV.v_var, EV.v_glob, EV.v_fn, EV.v_un, EV.v_bin, EV.v_slL, EV.v_slH, EV.v_slLH, EV.v_tup, EV.v_lst, EV.v_and, EV.v_or, EV.v_not, EV.v_ite, EV.v_chain, EV.v_call, EV.v_callF, EV.v_callIo, EV.v_callT, EV.v_callv, EV.v_nil, EV.v_cons, EV.v_seq, EV.v_enum, EV.v_zip, EV.v_rng1, EV.v_C, s_asg', s_asgO', s_asg2', s_expr', s_ret', s_retN', s_if', s_raise', ss_nil', ss_cons', r_ok, r_exc, r_opt, t_nm, cr_ok, cr_exc, cr_okS, List.getD_cons_zero, List.getD_cons_succ, List.set_cons_zero, List.set_cons_succ, B.pre, B.ev, Cm.ev, U.ev, D.truth, D.toInt, D.items, if_true, if_false, Bool.not_true, Bool.not_false, reduceCtorEq, Option.map_some, Option.bind_some, List.length_cons, List.length_nil, Nat.zero_add, Nat.reduceAdd, Nat.reduceLT, Nat.reduceLeDiff, Bool.and_true, Bool.true_and, decide_true, t1, t2, t3, ff, tt, eq_ii, beq_self_eq_true, hk, hb, ht]
theorem T.Ok.sm {k : Nat} {t : T} (h : T.Ok k t) : Sm k t.D := by
  induction h with
  | @mk k nm ps h1 h2 h3 ih =>
    rw [T.D_mk]
    refine .tup (by rw [List.length_cons, List.length_map]; omega) fun d hd => ?_
    rcases List.mem_cons.mp hd with rfl | hd
    · exact .str k fun c hc => small_lt (h1.2.2 c hc)
    · obtain ⟨p, hp, rfl⟩ := List.mem_map.mp hd
      exact ih p hp
theorem Rl.Ok.sm {k : Nat} {r : Rl} (h : r.Ok k) : Sm (k + 1) r.D := .tup (by simp) fun d hd => by
  rcases List.mem_cons.mp hd with rfl | hd
  · exact h.a.sm
  · rcases List.mem_cons.mp hd with rfl | hd
    · exact h.b.sm
    · cases hd
theorem sm_num {ws : List (List Nat)} (h : ws.length ≤ 1000) : Sm 1 (numT ws) := .tup (by rw [List.length_map]; exact h) fun d hd => by
  obtain ⟨w, _, rfl⟩ := List.mem_map.mp hd
  exact .int 0 _
theorem Stp.Ok.sm {s : Stp} (h : s.Ok) : Sm 2 s.D := .tup (by simp) fun d hd => by
  rcases List.mem_cons.mp hd with rfl | hd
  · exact sm_num h.len
  · rcases List.mem_cons.mp hd with rfl | hd
    · exact .int 1 _
    · cases hd

/-! ### rows and runs, as they are written -/
theorem rowOf_ok {s : List Nat} {ws : List (List Nat)} (h : rowOf s = some ws) : (∀ w ∈ ws, okNum w = true) ∧ rowText ws = s ∧ ws.length ≤ s.length + 1 := by
  unfold rowOf at h
  by_cases c1 : s = [45]
  · rw [if_pos c1] at h
    cases h
    exact ⟨fun _ h => (nomatch h), c1.symm, Nat.zero_le _⟩
  · rw [if_neg c1] at h
    cases hb : (parts [32] s).all okNum with
    | false => rw [hb] at h; cases h
    | true =>
      rw [hb] at h
      cases h
      refine ⟨fun w hw => List.all_eq_true.mp hb w hw, ?_, parts_len⟩
      unfold rowText
      rw [parts_join (by decide)]
      cases hp : parts [32] s with
      | nil => exact absurd hp (spl_ne _ _ _ _)
      | cons p ps => rfl
theorem stepOf_ok {w : List Nat} (hl : w.length ≤ 900) {st : Stp} (h : stepOf w = some st) : st.Ok ∧ st.text = w := by
  have hj := parts_join (S := [58]) (s := w) (by decide)
  have hpl : ∀ p ∈ parts [58] w, p.length ≤ w.length := fun p hp => part_le hp
  unfold stepOf at h
  generalize parts [58] w = ps at h hj hpl
  split at h
  · rename_i p0 p1
    have hj : p0 ++ ([58] ++ p1) = w := hj
    split at h
    · rename_i ho
      split at h
      · rename_i hd
        cases h
        refine ⟨⟨fun _ h => (nomatch h), ho, Nat.zero_le _⟩, ?_⟩
        rw [← hj, hd]
        rfl
      · split at h
        · rename_i ha
          cases h
          refine ⟨⟨fun q hq => List.all_eq_true.mp ha q hq, ho, ?_⟩, ?_⟩
          · have := hpl p0 (by simp)
            exact Nat.le_trans (parts_len (S := [46]) (s := p0)) (by omega)
          · show placeText (parts [46] p0) ++ [58] ++ p1 = w
            have hp : placeText (parts [46] p0) = p0 := by
              unfold placeText
              rw [parts_join (by decide)]
              cases hp : parts [46] p0 with
              | nil => exact absurd hp (spl_ne _ _ _ _)
              | cons p ps => rfl
            rw [hp, ← hj, List.append_assoc]
        · cases h
    · cases h
  · cases h
theorem runO_ok {s : List Nat} (hl : s.length ≤ 178) {ss : List Stp} (h : runO s = some ss) : (∀ st ∈ ss, st.Ok) ∧ runText ss = s ∧ ss.length ≤ s.length + 1 := by
  unfold runO at h
  by_cases c1 : s = [45]
  · rw [if_pos c1] at h
    cases h
    exact ⟨fun _ h => (nomatch h), c1.symm, Nat.zero_le _⟩
  · rw [if_neg c1] at h
    have he := allSome_of h
    have hlen : (parts [32] s).length = ss.length := by simpa using congrArg List.length he
    refine ⟨fun st hst => ?_, ?_, by have := parts_len (S := [32]) (s := s); omega⟩
    · obtain ⟨p, hp, hpe⟩ := map_eq_some he st hst
      exact (stepOf_ok (by have := part_le hp; omega) hpe).1
    · have ht := map_texts he fun p hp r hr => (stepOf_ok (by have := part_le hp; omega) hr).2
      unfold runText
      rw [ht, parts_join (by decide)]
      cases ss with
      | nil => exact absurd (List.length_eq_zero_iff.mp hlen) (spl_ne _ _ _ _)
      | cons r rs => rfl

/-! ### within the bounds -/
theorem size60 (n : Nat) {t : T} (h : T.Ok 60 t) : C (n + 61) 54 [t.D] = .ok (.int t.size) t.D := law_size_ok h n
theorem good0 (n : Nat) {t : T} (h : T.Ok 60 t) : ∃ b, C (n + 62) 55 [.int 0, t.D] = .ok (.bl b) (.int 0) := by
  refine ⟨decide (((t.size : Nat) : Int) ≤ 12), ?_⟩
  show C (n + 61 + 1) 55 _ = _
  rw [C_succ (di := d55) rfl]
  refine run_of (ρ := [some (.int 0), some t.D, none]) rfl ?_
  show evSs (C (n + 61)) wf0 d55.body [some (.int 0), some t.D, none] = _
  have i2 : ((0 : Int) == 0) = true := rfl
  unfold d55
  simp only [EV.v_lit, EV.v_var, EV.v_glob, EV.v_fn, EV.v_un, EV.v_bin, EV.v_slL, EV.v_slH, EV.v_slLH, EV.v_tup, EV.v_lst, EV.v_and, EV.v_or, EV.v_not, EV.v_ite, EV.v_chain, EV.v_call, EV.v_callF, EV.v_callIo, EV.v_callT, EV.v_callv, EV.v_nil, EV.v_cons, EV.v_seq, EV.v_enum, EV.v_zip, EV.v_rng1, EV.v_C, s_asg', s_asgO', s_asg2', s_expr', s_ret', s_retN', s_if', s_raise', ss_nil', ss_cons', r_ok, r_exc, r_opt, t_nm, cr_ok, cr_exc, cr_okS, List.getD_cons_zero, List.getD_cons_succ, List.set_cons_zero, List.set_cons_succ, B.pre, B.ev, Cm.ev, U.ev, D.truth, D.toInt, D.items, if_true, if_false, Bool.not_true, Bool.not_false, reduceCtorEq, Option.map_some, Option.bind_some, List.length_cons, List.length_nil, Nat.zero_add, Nat.reduceAdd, Nat.reduceLT, Nat.reduceLeDiff, Bool.and_true, Bool.true_and, decide_true, eq_ii, i2, size60 n h]
theorem good1 (n : Nat) {r : Rl} (h : r.Ok 60) : ∃ b, C (n + 62) 55 [.int 1, r.D] = .ok (.bl b) (.int 1) := by
  refine ⟨decide ((if ((r.b.size : Nat) : Int) > ((r.a.size : Nat) : Int) then ((r.b.size : Nat) : Int) else ((r.a.size : Nat) : Int)) ≤ 6), ?_⟩
  show C (n + 61 + 1) 55 _ = _
  rw [C_succ (di := d55) rfl]
  refine run_of (ρ := [some (.int 1), some r.D, none]) rfl ?_
  show evSs (C (n + 61)) wf0 d55.body [some (.int 1), some r.D, none] = _
  have i2 : ((1 : Int) == 0) = false := rfl
  have i3 : ((1 : Int) == 1) = true := rfl
  unfold d55 Rl.D
  simp only [EV.v_lit, EV.v_var, EV.v_glob, EV.v_fn, EV.v_un, EV.v_bin, EV.v_slL, EV.v_slH, EV.v_slLH, EV.v_tup, EV.v_lst, EV.v_and, EV.v_or, EV.v_not, EV.v_ite, EV.v_chain, EV.v_call, EV.v_callF, EV.v_callIo, EV.v_callT, EV.v_callv, EV.v_nil, EV.v_cons, EV.v_seq, EV.v_enum, EV.v_zip, EV.v_rng1, EV.v_C, s_asg', s_asgO', s_asg2', s_expr', s_ret', s_retN', s_if', s_raise', ss_nil', ss_cons', r_ok, r_exc, r_opt, t_nm, cr_ok, cr_exc, cr_okS, List.getD_cons_zero, List.getD_cons_succ, List.set_cons_zero, List.set_cons_succ, B.pre, B.ev, Cm.ev, U.ev, D.truth, D.toInt, D.items, if_true, if_false, Bool.not_true, Bool.not_false, reduceCtorEq, Option.map_some, Option.bind_some, List.length_cons, List.length_nil, Nat.zero_add, Nat.reduceAdd, Nat.reduceLT, Nat.reduceLeDiff, Bool.and_true, Bool.true_and, decide_true, eq_ii, i2, i3, at0, at1, size60 n h.a, size60 n h.b]
theorem good2 (n : Nat) {rs : List Rl} (h : ∀ r ∈ rs, r.Ok 60) (h5 : rs.length ≤ 5) : ∃ b, C (n + 62) 55 [.int 2, bkD rs] = .ok (.bl b) (.int 2) := by
  let p : Rl → Bool := fun r => decide (6 < (if ((r.b.size : Nat) : Int) > ((r.a.size : Nat) : Int) then ((r.b.size : Nat) : Int) else ((r.a.size : Nat) : Int)))
  refine ⟨(D.lst ((rs.filter p).map Rl.D)).eqv (.lst []), ?_⟩
  have hk : evE (C (n + 61)) (.compIf [("rule", 2)] (.nm 2) (.seq (.var 1)) (.bin (.cmp .gt) (.bin .max2 (.call false false 54 (.cons (.bin .idx (.var 2) (.lit (.int 0))) .nil)) (.call false false 54 (.cons (.bin .idx (.var 2) (.lit (.int 1))) .nil))) (.lit (.int 6))) (.var 2)) [some (.int 2), some (bkD rs), none] = .ok (.lst ((rs.filter p).map Rl.D)) [some (.int 2), some (bkD rs), none] := by
    refine comp_two (xs := rs) (e := Rl.D) (g := Rl.D) (p := p) ?_ (by simp) (len_le (by omega)) (fun r hr => ?_) fun r hr hp => ?_
    · unfold bkD
      simp only [EV.v_lit, EV.v_var, EV.v_glob, EV.v_fn, EV.v_un, EV.v_bin, EV.v_slL, EV.v_slH, EV.v_slLH, EV.v_tup, EV.v_lst, EV.v_and, EV.v_or, EV.v_not, EV.v_ite, EV.v_chain, EV.v_call, EV.v_callF, EV.v_callIo, EV.v_callT, EV.v_callv, EV.v_nil, EV.v_cons, EV.v_seq, EV.v_enum, EV.v_zip, EV.v_rng1, EV.v_C, s_asg', s_asgO', s_asg2', s_expr', s_ret', s_retN', s_if', s_raise', ss_nil', ss_cons', r_ok, r_exc, r_opt, t_nm, cr_ok, cr_exc, cr_okS, List.getD_cons_zero, List.getD_cons_succ, List.set_cons_zero, List.set_cons_succ, B.pre, B.ev, Cm.ev, U.ev, D.truth, D.toInt, D.items, if_true, if_false, Bool.not_true, Bool.not_false, reduceCtorEq, Option.map_some, Option.bind_some, List.length_cons, List.length_nil, Nat.zero_add, Nat.reduceAdd, Nat.reduceLT, Nat.reduceLeDiff, Bool.and_true, Bool.true_and, decide_true]
    · unfold Rl.D
      simp only [EV.v_lit, EV.v_var, EV.v_glob, EV.v_fn, EV.v_un, EV.v_bin, EV.v_slL, EV.v_slH, EV.v_slLH, EV.v_tup, EV.v_lst, EV.v_and, EV.v_or, EV.v_not, EV.v_ite, EV.v_chain, EV.v_call, EV.v_callF, EV.v_callIo, EV.v_callT, EV.v_callv, EV.v_nil, EV.v_cons, EV.v_seq, EV.v_enum, EV.v_zip, EV.v_rng1, EV.v_C, s_asg', s_asgO', s_asg2', s_expr', s_ret', s_retN', s_if', s_raise', ss_nil', ss_cons', r_ok, r_exc, r_opt, t_nm, cr_ok, cr_exc, cr_okS, List.getD_cons_zero, List.getD_cons_succ, List.set_cons_zero, List.set_cons_succ, B.pre, B.ev, Cm.ev, U.ev, D.truth, D.toInt, D.items, if_true, if_false, Bool.not_true, Bool.not_false, reduceCtorEq, Option.map_some, Option.bind_some, List.length_cons, List.length_nil, Nat.zero_add, Nat.reduceAdd, Nat.reduceLT, Nat.reduceLeDiff, Bool.and_true, Bool.true_and, decide_true, at0, at1, size60 n (h r hr).a, size60 n (h r hr).b]
      rfl
    · simp only [EV.v_lit, EV.v_var, EV.v_glob, EV.v_fn, EV.v_un, EV.v_bin, EV.v_slL, EV.v_slH, EV.v_slLH, EV.v_tup, EV.v_lst, EV.v_and, EV.v_or, EV.v_not, EV.v_ite, EV.v_chain, EV.v_call, EV.v_callF, EV.v_callIo, EV.v_callT, EV.v_callv, EV.v_nil, EV.v_cons, EV.v_seq, EV.v_enum, EV.v_zip, EV.v_rng1, EV.v_C, s_asg', s_asgO', s_asg2', s_expr', s_ret', s_retN', s_if', s_raise', ss_nil', ss_cons', r_ok, r_exc, r_opt, t_nm, cr_ok, cr_exc, cr_okS, List.getD_cons_zero, List.getD_cons_succ, List.set_cons_zero, List.set_cons_succ, B.pre, B.ev, Cm.ev, U.ev, D.truth, D.toInt, D.items, if_true, if_false, Bool.not_true, Bool.not_false, reduceCtorEq, Option.map_some, Option.bind_some, List.length_cons, List.length_nil, Nat.zero_add, Nat.reduceAdd, Nat.reduceLT, Nat.reduceLeDiff, Bool.and_true, Bool.true_and, decide_true]
  have gd : ∀ d ∈ (rs.filter p).map Rl.D, Gd 61 d := fun d hd => by
    obtain ⟨r, hr, rfl⟩ := List.mem_map.mp hd
    exact gd_rl (h r (List.mem_filter.mp hr).1)
  have hq := eq_some (k := 62) (gd_lst gd) ((gd_lst (k := 0) (ds := []) fun _ h => nomatch h).mono (by decide)) (by decide)
  show C (n + 61 + 1) 55 _ = _
  rw [C_succ (di := d55) rfl]
  refine run_of (ρ := [some (.int 2), some (bkD rs), none]) rfl ?_
  show evSs (C (n + 61)) wf0 d55.body [some (.int 2), some (bkD rs), none] = _
  have i2 : ((2 : Int) == 0) = false := rfl
  have i3 : ((2 : Int) == 1) = false := rfl
  have i4 : ((2 : Int) == 2) = true := rfl
  have ln : U.len.ev (bkD rs) = some (.int ((rs.map Rl.D).length : Nat)) := rfl
  have l5 : decide ((((rs.map Rl.D).length : Nat) : Int) ≤ 5) = true := decide_eq_true (by rw [List.length_map]; omega)
  simp only [U.ev] at ln
  unfold d55
  simp only [EV.v_lit, EV.v_var, EV.v_glob, EV.v_fn, EV.v_un, EV.v_bin, EV.v_slL, EV.v_slH, EV.v_slLH, EV.v_tup, EV.v_lst, EV.v_and, EV.v_or, EV.v_not, EV.v_ite, EV.v_chain, EV.v_call, EV.v_callF, EV.v_callIo, EV.v_callT, EV.v_callv, EV.v_nil, EV.v_cons, EV.v_seq, EV.v_enum, EV.v_zip, EV.v_rng1, EV.v_C, s_asg', s_asgO', s_asg2', s_expr', s_ret', s_retN', s_if', s_raise', ss_nil', ss_cons', r_ok, r_exc, r_opt, t_nm, cr_ok, cr_exc, cr_okS, List.getD_cons_zero, List.getD_cons_succ, List.set_cons_zero, List.set_cons_succ, B.pre, B.ev, Cm.ev, U.ev, D.truth, D.toInt, D.items, if_true, if_false, Bool.not_true, Bool.not_false, reduceCtorEq, Option.map_some, Option.bind_some, List.length_cons, List.length_nil, Nat.zero_add, Nat.reduceAdd, Nat.reduceLT, Nat.reduceLeDiff, Bool.and_true, Bool.true_and, decide_true, eq_ii, i2, i3, i4, ln, l5, hk, hq]
theorem good3 (n : Nat) (ds : List D) : ∃ b, C (n + 62) 55 [.int 3, .tup ds] = .ok (.bl b) (.int 3) := by
  refine ⟨decide (((ds.length : Nat) : Int) ≤ 5), ?_⟩
  show C (n + 61 + 1) 55 _ = _
  rw [C_succ (di := d55) rfl]
  refine run_of (ρ := [some (.int 3), some (.tup ds), none]) rfl ?_
  show evSs (C (n + 61)) wf0 d55.body [some (.int 3), some (.tup ds), none] = _
  have i2 : ((3 : Int) == 0) = false := rfl
  have i3 : ((3 : Int) == 1) = false := rfl
  have i4 : ((3 : Int) == 2) = false := rfl
  have i5 : ((3 : Int) == 3) = true := rfl
  unfold d55
  simp only [EV.v_lit, EV.v_var, EV.v_glob, EV.v_fn, EV.v_un, EV.v_bin, EV.v_slL, EV.v_slH, EV.v_slLH, EV.v_tup, EV.v_lst, EV.v_and, EV.v_or, EV.v_not, EV.v_ite, EV.v_chain, EV.v_call, EV.v_callF, EV.v_callIo, EV.v_callT, EV.v_callv, EV.v_nil, EV.v_cons, EV.v_seq, EV.v_enum, EV.v_zip, EV.v_rng1, EV.v_C, s_asg', s_asgO', s_asg2', s_expr', s_ret', s_retN', s_if', s_raise', ss_nil', ss_cons', r_ok, r_exc, r_opt, t_nm, cr_ok, cr_exc, cr_okS, List.getD_cons_zero, List.getD_cons_succ, List.set_cons_zero, List.set_cons_succ, B.pre, B.ev, Cm.ev, U.ev, D.truth, D.toInt, D.items, if_true, if_false, Bool.not_true, Bool.not_false, reduceCtorEq, Option.map_some, Option.bind_some, List.length_cons, List.length_nil, Nat.zero_add, Nat.reduceAdd, Nat.reduceLT, Nat.reduceLeDiff, Bool.and_true, Bool.true_and, decide_true, eq_ii, i2, i3, i4, i5]
theorem good4 (n : Nat) (ds : List D) : ∃ b, C (n + 62) 55 [.int 4, .tup ds] = .ok (.bl b) (.int 4) := by
  refine ⟨decide (((ds.length : Nat) : Int) ≤ 60), ?_⟩
  show C (n + 61 + 1) 55 _ = _
  rw [C_succ (di := d55) rfl]
  refine run_of (ρ := [some (.int 4), some (.tup ds), none]) rfl ?_
  show evSs (C (n + 61)) wf0 d55.body [some (.int 4), some (.tup ds), none] = _
  have i2 : ((4 : Int) == 0) = false := rfl
  have i3 : ((4 : Int) == 1) = false := rfl
  have i4 : ((4 : Int) == 2) = false := rfl
  have i5 : ((4 : Int) == 3) = false := rfl
  unfold d55
  simp only [EV.v_lit, EV.v_var, EV.v_glob, EV.v_fn, EV.v_un, EV.v_bin, EV.v_slL, EV.v_slH, EV.v_slLH, EV.v_tup, EV.v_lst, EV.v_and, EV.v_or, EV.v_not, EV.v_ite, EV.v_chain, EV.v_call, EV.v_callF, EV.v_callIo, EV.v_callT, EV.v_callv, EV.v_nil, EV.v_cons, EV.v_seq, EV.v_enum, EV.v_zip, EV.v_rng1, EV.v_C, s_asg', s_asgO', s_asg2', s_expr', s_ret', s_retN', s_if', s_raise', ss_nil', ss_cons', r_ok, r_exc, r_opt, t_nm, cr_ok, cr_exc, cr_okS, List.getD_cons_zero, List.getD_cons_succ, List.set_cons_zero, List.set_cons_succ, B.pre, B.ev, Cm.ev, U.ev, D.truth, D.toInt, D.items, if_true, if_false, Bool.not_true, Bool.not_false, reduceCtorEq, Option.map_some, Option.bind_some, List.length_cons, List.length_nil, Nat.zero_add, Nat.reduceAdd, Nat.reduceLT, Nat.reduceLeDiff, Bool.and_true, Bool.true_and, decide_true, eq_ii, i2, i3, i4, i5]
/-- which def writes -/
def wr (door : Nat) : Nat := match door with
  | 0 => 11
  | 1 => 13
  | 2 => 15
  | 3 => 17
  | _ => 20
theorem val_ok {s : List Nat} {d : EV.D} (hl : s.length ≤ 178) (hc : s.count 32 ≤ 13) : ∀ door, door < 5 → valD door s = some d → Sm 62 d ∧ (∀ n, ∃ b, C (n + 62) 55 [.int (door : Nat), d] = .ok (.bl b) (.int (door : Nat))) ∧ ∀ n, C (n + 64) (wr door) [d] = .ok (.str s) d
  | 0, _, h => by
    obtain ⟨t, ht, rfl⟩ := Option.map_eq_some_iff.mp h
    obtain ⟨h1, h2⟩ := wholeT_ok hl ht
    refine ⟨h1.sm.mono (by decide), fun n => good0 n h1, fun n => ?_⟩
    have := term_text_ok h1 (by rw [h2]; omega) (n + 2)
    rw [h2] at this
    exact this
  | 1, _, h => by
    obtain ⟨r, hr, rfl⟩ := Option.map_eq_some_iff.mp h
    obtain ⟨h1, h2, _⟩ := ruleOf_ok hl hr
    refine ⟨h1.sm.mono (by decide), fun n => good1 n h1, fun n => ?_⟩
    have := rule_text_ok h1 (by rw [h2]; omega) (n + 1)
    rw [h2] at this
    exact this
  | 2, _, h => by
    obtain ⟨rs, hr, rfl⟩ := Option.map_eq_some_iff.mp h
    obtain ⟨h1, h5, h2⟩ := bookOf_ok hl hc hr
    refine ⟨.tup (by rw [List.length_map]; omega) fun d hd => ?_, fun n => good2 n h1 h5, fun n => ?_⟩
    · obtain ⟨r, hr, rfl⟩ := List.mem_map.mp hd
      exact (h1 r hr).sm
    · have := book_text_ok h1 h5 (by rw [h2]; omega) n
      rw [h2] at this
      exact this
  | 3, _, h => by
    obtain ⟨ws, hr, rfl⟩ := Option.map_eq_some_iff.mp h
    obtain ⟨h1, h2, h3⟩ := rowOf_ok hr
    refine ⟨(sm_num (by omega)).mono (by decide), fun n => good3 n _, fun n => ?_⟩
    have := row_text_ok (n + 61) h1 (by rw [h2]; omega) (by omega)
    rw [h2] at this
    exact this
  | 4, _, h => by
    obtain ⟨ss, hr, rfl⟩ := Option.map_eq_some_iff.mp h
    obtain ⟨h1, h2, h3⟩ := runO_ok hl hr
    refine ⟨(Sm.tup (k := 2) (by rw [List.length_map]; omega) fun d hd => ?_).mono (by decide), fun n => good4 n _, fun n => ?_⟩
    · obtain ⟨r, hr, rfl⟩ := List.mem_map.mp hd
      exact (h1 r hr).sm
    · have := run_text_ok (n + 59) h1 (by omega) (by rw [h2]; omega)
      rw [h2] at this
      exact this
end K49
end
section
set_option autoImplicit false
/-! Q49e: the box of draws. -/
namespace K49
open PySem EV

theorem s_store' {c : Nat → List D → CR} {wf i : Nat} {ix e : E} {ρ : EV.Env} : evS c wf (.store i ix e) ρ = (evE c e ρ).bind fun d ρ => match ρ.getD i none with
      | some _ => (evE c ix ρ).bind fun k ρ => match ρ.getD i none, k with
        | some (.lst ds), .int k => match L2.ixN ds.length k with
          | some j => .ok .nx (ρ.set i (some (.lst (ds.set j d))))
          | none => .bad
        | _, _ => .bad
      | none => .bad := rfl
/-- a box from which n may still be drawn -/
def BoxB (n : Nat) (d : D) : Prop := ∃ a b c : Int, d = .lst [.int a, .int b, .int c] ∧ 0 ≤ b ∧ b < 2 ^ 62 ∧ 0 ≤ c ∧ c + n ≤ 2 ^ 20
theorem BoxB.mono {n m : Nat} {d : D} (h : BoxB n d) (hm : m ≤ n) : BoxB m d := by
  obtain ⟨a, b, c, e, h1, h2, h3, h4⟩ := h
  exact ⟨a, b, c, e, h1, h2, h3, by omega⟩
theorem mulc (i j : Int) (h : -(2 ^ 64) < j ∧ j < 2 ^ 64) : (i.natAbs.log2 + j.natAbs.log2 < 1000000 ∨ (-(2 ^ 64) < i ∧ i < 2 ^ 64) ∨ (-(2 ^ 64) < j ∧ j < 2 ^ 64)) := .inr (.inr h)
theorem at2 {x y z : D} {xs : List D} : L2.atI (x :: y :: z :: xs) 2 = some z := by
  have h : (2 : Int) < ((xs.length + 1 + 1 + 1 : Nat) : Int) := by omega
  unfold L2.atI L2.ixN
  rw [if_pos (by decide), if_pos (by simpa using h)]
  rfl
theorem log_le {z : Int} (h0 : 0 < z) (h1 : z ≤ 1000) : 0 < z ∧ z.natAbs.log2 < 9000 := by
  refine ⟨h0, ?_⟩
  refine (Nat.log2_lt (by omega)).mpr ?_
  have : z.natAbs < 2 ^ 10 := by omega
  exact Nat.lt_of_lt_of_le this (Nat.pow_le_pow_right (by decide) (by decide))
theorem take_ok (lv n : Nat) {box : D} {z : Int} (h0 : 0 < z) (h1 : z ≤ 1000) (h : BoxB (n + 1) box) : ∃ (r : Int) (box' : D), 0 ≤ r ∧ r < z ∧ BoxB n box' ∧ C (lv + 1) 38 [box, .int z] = .ok (.int r) box' := by
  obtain ⟨a, b, c, rfl, hb0, hb1, hc0, hc1⟩ := h
  have ix0 : L2.ixN 3 0 = some 0 := rfl
  have ix2 : L2.ixN 3 2 = some 2 := rfl
  by_cases ha : 0 < a
  · refine ⟨a % z, .lst [.int (a / z), .int b, .int c], Int.emod_nonneg _ (by omega), Int.emod_lt_of_pos _ h0, ⟨_, _, _, rfl, hb0, hb1, hc0, by omega⟩, ?_⟩
    rw [C_succ (di := d38) rfl]
    refine run_of (ρ := [some (.lst [.int (a / z), .int b, .int c]), some (.int z), none, none, none, some (.int (a % z))]) rfl ?_
    show evSs (C lv) wf0 d38.body [some (.lst [.int a, .int b, .int c]), some (.int z), none, none, none, none] = _
    have i1 : decide (0 < a) = true := decide_eq_true ha
    unfold d38
    simp only [EV.v_lit, EV.v_var, EV.v_glob, EV.v_fn, EV.v_un, EV.v_bin, EV.v_slL, EV.v_slH, EV.v_slLH, EV.v_tup, EV.v_lst, EV.v_and, EV.v_or, EV.v_not, EV.v_ite, EV.v_chain, EV.v_call, EV.v_callF, EV.v_callIo, EV.v_callT, EV.v_callv, EV.v_nil, EV.v_cons, EV.v_seq, EV.v_enum, EV.v_zip, EV.v_rng1, EV.v_C, s_asg', s_asgO', s_asg2', s_expr', s_ret', s_retN', s_if', s_raise', ss_nil', ss_cons', r_ok, r_exc, r_opt, t_nm, cr_ok, cr_exc, cr_okS, List.getD_cons_zero, List.getD_cons_succ, List.set_cons_zero, List.set_cons_succ, B.pre, B.ev, Cm.ev, U.ev, D.truth, D.toInt, D.items, if_true, if_false, Bool.not_true, Bool.not_false, reduceCtorEq, Option.map_some, Option.bind_some, List.length_cons, List.length_nil, Nat.zero_add, Nat.reduceAdd, Nat.reduceLT, Nat.reduceLeDiff, Bool.and_true, Bool.true_and, decide_true, s_store', at0, i1, if_pos h0, if_pos (log_le h0 h1), ix0]
  · have i1 : decide (0 < a) = false := decide_eq_false ha
    have m1 := mulc 48271 (c + 1) ⟨by omega, by omega⟩
    have m2 := mulc (b + 48271 * (c + 1)) (39373 + (c + 1)) ⟨by omega, by omega⟩
    have p1 : (0 : Int) < 2147483647 := by decide
    have p2 : (0 : Int) < 40009 := by decide
    have p3 : (0 : Int) < 2147483629 := by decide
    have p4 : (0 : Int) < 2147483587 := by decide
    have f1 : (0 : Int) < 1000003 ∧ (1000003 : Int).natAbs.log2 < 9000 := by decide
    have f2 : (0 : Int) < 64 ∧ (64 : Int).natAbs.log2 < 9000 := by decide
    let once : Int := ((b + 48271 * (c + 1)) * (39373 + (c + 1))) % 2147483647
    let far : Int := once % 40009 + 7
    have hfar : -(2 ^ 64) < far ∧ far < 2 ^ 64 := by
      have z1 := Int.emod_nonneg once (show (40009 : Int) ≠ 0 by decide)
      have z2 := Int.emod_lt_of_pos once p2
      show -(2 ^ 64) < once % 40009 + 7 ∧ once % 40009 + 7 < 2 ^ 64
      omega
    have m3 := mulc (once + (c + 1) + b / 1000003) far hfar
    let twice : Int := ((once + (c + 1) + b / 1000003) * far) % 2147483629
    have m4 := mulc twice 48271 (by decide)
    refine ⟨((twice * 48271 + once) % 2147483587 / 64) % z, .lst [.int a, .int b, .int (c + 1)], Int.emod_nonneg _ (by omega), Int.emod_lt_of_pos _ h0, ⟨_, _, _, rfl, hb0, hb1, by omega, by omega⟩, ?_⟩
    rw [C_succ (di := d38) rfl]
    refine run_of (ρ := [some (.lst [.int a, .int b, .int (c + 1)]), some (.int z), some (.int once), some (.int far), some (.int twice), none]) rfl ?_
    show evSs (C lv) wf0 d38.body [some (.lst [.int a, .int b, .int c]), some (.int z), none, none, none, none] = _
    unfold d38
    simp only [twice, far, once] at m3 m4 ⊢
    simp only [EV.v_lit, EV.v_var, EV.v_glob, EV.v_fn, EV.v_un, EV.v_bin, EV.v_slL, EV.v_slH, EV.v_slLH, EV.v_tup, EV.v_lst, EV.v_and, EV.v_or, EV.v_not, EV.v_ite, EV.v_chain, EV.v_call, EV.v_callF, EV.v_callIo, EV.v_callT, EV.v_callv, EV.v_nil, EV.v_cons, EV.v_seq, EV.v_enum, EV.v_zip, EV.v_rng1, EV.v_C, s_asg', s_asgO', s_asg2', s_expr', s_ret', s_retN', s_if', s_raise', ss_nil', ss_cons', r_ok, r_exc, r_opt, t_nm, cr_ok, cr_exc, cr_okS, List.getD_cons_zero, List.getD_cons_succ, List.set_cons_zero, List.set_cons_succ, B.pre, B.ev, Cm.ev, U.ev, D.truth, D.toInt, D.items, if_true, if_false, Bool.not_true, Bool.not_false, reduceCtorEq, Option.map_some, Option.bind_some, List.length_cons, List.length_nil, Nat.zero_add, Nat.reduceAdd, Nat.reduceLT, Nat.reduceLeDiff, Bool.and_true, Bool.true_and, decide_true, s_store', at0, at1, at2, i1, if_pos m1, if_pos m2, if_pos m3, if_pos m4, if_pos p1, if_pos p2, if_pos p3, if_pos p4, if_pos f1, if_pos f2, if_pos h0, ix2]
theorem of_ok (lv n : Nat) {box : D} {ds : List D} (hd : ds ≠ []) (hl : ds.length ≤ 1000) (h : BoxB (n + 1) box) : ∃ (d : D) (box' : D), d ∈ ds ∧ BoxB n box' ∧ C (lv + 2) 41 [box, .lst ds] = .ok d box' := by
  have hp : 0 < ds.length := List.length_pos_iff.mpr hd
  obtain ⟨r, box', h1, h2, h3, h4⟩ := take_ok lv n (z := (ds.length : Nat)) (by omega) (by omega) h
  obtain ⟨k, rfl⟩ : ∃ k : Nat, r = (k : Nat) := ⟨r.toNat, by omega⟩
  have hk : k < ds.length := by omega
  refine ⟨ds[k], box', List.getElem_mem hk, h3, ?_⟩
  have hat := atD (List.getElem?_eq_getElem hk)
  show C (lv + 1 + 1) 41 _ = _
  rw [C_succ (di := d41) rfl]
  refine run_of (ρ := [some box', some (.lst ds)]) rfl ?_
  show evSs (C (lv + 1)) wf0 d41.body [some box, some (.lst ds)] = _
  unfold d41
  simp only [EV.v_lit, EV.v_var, EV.v_glob, EV.v_fn, EV.v_un, EV.v_bin, EV.v_slL, EV.v_slH, EV.v_slLH, EV.v_tup, EV.v_lst, EV.v_and, EV.v_or, EV.v_not, EV.v_ite, EV.v_chain, EV.v_call, EV.v_callF, EV.v_callIo, EV.v_callT, EV.v_callv, EV.v_nil, EV.v_cons, EV.v_seq, EV.v_enum, EV.v_zip, EV.v_rng1, EV.v_C, s_asg', s_asgO', s_asg2', s_expr', s_ret', s_retN', s_if', s_raise', ss_nil', ss_cons', r_ok, r_exc, r_opt, t_nm, cr_ok, cr_exc, cr_okS, List.getD_cons_zero, List.getD_cons_succ, List.set_cons_zero, List.set_cons_succ, B.pre, B.ev, Cm.ev, U.ev, D.truth, D.toInt, D.items, if_true, if_false, Bool.not_true, Bool.not_false, reduceCtorEq, Option.map_some, Option.bind_some, List.length_cons, List.length_nil, Nat.zero_add, Nat.reduceAdd, Nat.reduceLT, Nat.reduceLeDiff, Bool.and_true, Bool.true_and, decide_true, h4, hat]

/-! ### comprehensions that draw -/
theorem compGo_inv {f : D → EV.Env → R (Option D)} {P : Nat → EV.Env → Prop} {Q : D → Prop} (K : Nat) (hf : ∀ x n ρ, P (n + K) ρ → ∃ d ρ', f x ρ = .ok (some d) ρ' ∧ P n ρ' ∧ Q d) : ∀ (xs : List D) (n : Nat) (ρ : EV.Env), P (n + xs.length * K) ρ → ∃ ds ρ', compGo f xs ρ = .ok ds ρ' ∧ P n ρ' ∧ ds.length = xs.length ∧ ∀ d ∈ ds, Q d
  | [], n, ρ, h => ⟨[], ρ, rfl, by simpa using h, rfl, fun _ h => nomatch h⟩
  | x :: xs, n, ρ, h => by
    rw [List.length_cons, Nat.succ_mul, ← Nat.add_assoc] at h
    obtain ⟨d, ρ1, h1, h2, h3⟩ := hf x _ ρ h
    obtain ⟨ds, ρ2, h4, h5, h6, h7⟩ := compGo_inv K hf xs n ρ1 h2
    refine ⟨d :: ds, ρ2, ?_, h5, by rw [List.length_cons, List.length_cons, h6], fun e he => ?_⟩
    · show (f x ρ).bind _ = _
      rw [h1]
      show (compGo f xs ρ1).bind _ = _
      rw [h4]
      rfl
    · rcases List.mem_cons.mp he with rfl | he
      · exact h3
      · exact h7 e he
theorem rangeD_len (m : Nat) : ∀ lo : Int, (rangeD lo m).length = m := by
  induction m with
  | zero => intro lo; rfl
  | succ m ih => intro lo; show (rangeD (lo + 1) m).length + 1 = _; rw [ih]
theorem comp_box {c : Nat → List D → CR} {nm : Str} {j : Nat} {it : It} {elt : E} {rest : List (Option D)} {m : Nat} {Q : D → Prop} (K n : Nat) {box : D} (hit : evIt c it (some box :: rest) = .ok (rangeD 0 m) (some box :: rest)) (hj : j < rest.length) (hm : m ≤ 1000) (hB : BoxB (n + m * K) box)
    (h : ∀ (x : D) (n : Nat) (box : D), BoxB (n + K) box → ∃ d box', evE c elt (some box :: rest.set j (some x)) = .ok d (some box' :: rest.set j (some x)) ∧ BoxB n box' ∧ Q d) :
    ∃ ds box', evE c (.comp [(nm, j + 1)] (.nm (j + 1)) it elt) (some box :: rest) = .ok (.lst ds) (some box' :: rest) ∧ BoxB n box' ∧ ds.length = m ∧ ∀ d ∈ ds, Q d := by
  obtain ⟨ds, ρ', h1, ⟨box', h2, rfl⟩, h3, h4⟩ := compGo_inv (f := compF (.nm (j + 1)) (fun ρ => .ok true ρ) (evE c elt) [j + 1]) (P := fun n ρ => ∃ box, BoxB n box ∧ ρ = some box :: rest.set j none) (Q := Q) K (fun x n ρ hP => by
    obtain ⟨box, hb, rfl⟩ := hP
    obtain ⟨d, box', g1, g2, g3⟩ := h x n box hb
    refine ⟨d, _, ?_, ⟨box', g2, rfl⟩, g3⟩
    show R.calm ((R.opt (some box :: rest.set j none) ((Tg.nm (j + 1)).bind x (some box :: rest.set j none))).bind _) = _
    rw [t_nm, if_pos (by rw [List.length_cons, List.length_set]; omega)]
    show R.calm ((evE c elt (some box :: (rest.set j none).set j (some x))).bind _) = _
    rw [List.set_set, g1]
    show R.ok _ (some box' :: (rest.set j (some x)).set j none) = _
    rw [List.set_set]) (rangeD 0 m) n (some box :: rest.set j none) ⟨box, by rw [rangeD_len]; exact hB, rfl⟩
  refine ⟨ds, box', ?_, h2, by rw [h3, rangeD_len], h4⟩
  rw [v_comp, hit]
  show (if (rangeD 0 m).length ≤ sizeLine then _ else _) = _
  rw [if_pos (by rw [rangeD_len]; exact len_le hm)]
  show (compGo _ _ (some box :: rest.set j none)).bind _ = _
  rw [show (compGo (compF (.nm (j + 1)) (fun ρ => .ok true ρ) (evE c elt) (List.map (fun x => x.2) [(nm, j + 1)])) (rangeD 0 m) (some box :: rest.set j none)) = _ from h1]
  show R.ok (D.lst ds) (some box' :: (rest.set j none).set j (rest.getD j none)) = _
  rw [List.set_set]
  congr 2
  rw [List.getD_eq_getElem?_getD, List.getElem?_eq_getElem hj]
  exact List.set_getElem_self hj
theorem strs_of {G : List Nat → Prop} : ∀ {ds : List D}, (∀ d ∈ ds, ∃ t, d = .str t ∧ G t) → ∃ ts : List (List Nat), ds = ts.map .str ∧ D.strs ds = some ts ∧ ∀ t ∈ ts, G t
  | [], _ => ⟨[], rfl, rfl, fun _ h => nomatch h⟩
  | d :: ds, h => by
    obtain ⟨t, rfl, g⟩ := h d List.mem_cons_self
    obtain ⟨ts, rfl, h2, h3⟩ := strs_of fun e he => h e (List.mem_cons_of_mem _ he)
    refine ⟨t :: ts, rfl, ?_, fun x hx => ?_⟩
    · show (D.strs (ts.map .str)).map _ = _
      rw [h2]
      rfl
    · rcases List.mem_cons.mp hx with rfl | hx
      · exact g
      · exact h3 x hx

/-! ### texts within bounds -/
structure TB (L B : Nat) (t : List Nat) : Prop where
  len : t.length ≤ L
  bl : t.count 32 ≤ B
  asc : ∀ c ∈ t, c < 128
theorem TB.mono {L B L' B' : Nat} {t : List Nat} (h : TB L B t) (h1 : L ≤ L') (h2 : B ≤ B') : TB L' B' t := ⟨Nat.le_trans h.len h1, Nat.le_trans h.bl h2, h.asc⟩
theorem TB.app {L B L' B' : Nat} {t u : List Nat} (h : TB L B t) (h' : TB L' B' u) : TB (L + L') (B + B') (t ++ u) := ⟨by have := h.len; have := h'.len; simp; omega, by have := h.bl; have := h'.bl; rw [List.count_append]; omega, fun c hc => (List.mem_append.mp hc).elim (h.asc c) (h'.asc c)⟩
theorem TB.join {L B l b : Nat} {S : List Nat} (hS : TB l b S) : ∀ {ts : List (List Nat)}, (∀ t ∈ ts, TB L B t) → TB (ts.length * L + (ts.length - 1) * l) (ts.length * B + (ts.length - 1) * b) (TL.joinL S ts)
  | [], _ => ⟨by simp [TL.joinL], by simp [TL.joinL], fun c hc => by simp [TL.joinL] at hc⟩
  | [t], h => (h t List.mem_cons_self).mono (by simp) (by simp)
  | t :: u :: r, h => by
    have ih := TB.join hS (ts := u :: r) fun x hx => h x (List.mem_cons_of_mem _ hx)
    have := (h t List.mem_cons_self).app (hS.app ih)
    refine TB.mono this ?_ ?_
    · simp only [List.length_cons, Nat.add_sub_cancel]
      have e1 : (r.length + 1 + 1) * L = (r.length + 1) * L + L := Nat.succ_mul _ _
      have e2 : (r.length + 1) * l = r.length * l + l := Nat.succ_mul _ _
      omega
    · simp only [List.length_cons, Nat.add_sub_cancel]
      have e1 : (r.length + 1 + 1) * B = (r.length + 1) * B + B := Nat.succ_mul _ _
      have e2 : (r.length + 1) * b = r.length * b + b := Nat.succ_mul _ _
      omega
end K49
end
section
set_option autoImplicit false
/-! Q49f: texts drawn. -/
namespace K49
open PySem EV

theorem toInt_bind {α : Type} (i : Int) (f : Int → Option α) : (D.int i).toInt.bind f = f i := rfl
theorem range_of {c : Nat → List D → CR} {a : E} {m : Nat} {ρ ρ1 : EV.Env} (h : evE c a ρ = .ok (.int (m : Nat)) ρ1) (hm : m ≤ 1000) : evIt c (.range1 a) ρ = .ok (rangeD 0 m) ρ1 := by
  have hb : -(2 ^ 62) ≤ ((m : Nat) : Int) ∧ ((m : Nat) : Int) < 2 ^ 62 := ⟨Int.le_trans (by decide) (Int.natCast_nonneg m), Int.lt_of_le_of_lt (Int.ofNat_le.mpr hm) (by decide)⟩
  rw [v_rng1, h, r_ok, toInt_bind, if_pos hb, Int.toNat_natCast, r_opt]
theorem range_ev (L : Nat) {i : Nat} {m : Nat} {ρ : EV.Env} (h : ρ.getD i none = some (.int (m : Nat))) (hm : m ≤ 1000) : evIt (C L) (.range1 (.var i)) ρ = .ok (rangeD 0 m) ρ := range_of (by rw [EV.v_var, h, r_opt]) hm
theorem tb_lit {L : Nat} {t : List Nat} (h : (decide (t.length ≤ L) && decide (t.count 32 = 0) && t.all (· < 128)) = true) : TB L 0 t := by
  simp only [Bool.and_eq_true, decide_eq_true_eq, List.all_eq_true] at h
  exact ⟨h.1.1, Nat.le_of_eq h.1.2, h.2⟩
def TermP (f : Nat) : Prop := ∀ (s n lv : Nat) (box : D), 1 ≤ s → s ≤ f → s ≤ 100 → BoxB (n + 4 * s) box → ∃ t box', C (lv + f + 2) 51 [box, .int (s : Nat)] = .ok (.str t) box' ∧ BoxB n box' ∧ TB (8 * s) 0 t
theorem law_term_step (f : Nat) (ih : TermP f) : TermP (f + 1) := by
    intro s n lv box h1 h2 h100 hB
    have run : ∀ {d : D} {ρ : EV.Env} {box' : D}, ρ.getD 0 none = some box' → evSs (C (lv + f + 2)) wf0 d51.body [some box, some (.int (s : Nat)), none, none] = .ok (.ret d) ρ → C (lv + (f + 1) + 2) 51 [box, .int (s : Nat)] = .ok d box' := fun h0 hb => by
      show C (lv + f + 2 + 1) 51 _ = _
      rw [C_succ (di := d51) rfl, run_of (di := d51) (ds := [box, .int (s : Nat)]) rfl hb, h0]
      rfl
    have first : ∀ (m : Nat) (b : D), BoxB (m + 1) b → ∃ t b', BoxB m b' ∧ TB 8 0 t ∧ C (lv + f + 2) 41 [b, .lst [.str [97], .str [98], .str [108, 111, 110, 103, 110, 97, 109, 101]]] = .ok (.str t) b' := fun m b hb => by
      obtain ⟨d, b', g1, g2, g3⟩ := of_ok (lv + f) m (ds := [.str [97], .str [98], .str [108, 111, 110, 103, 110, 97, 109, 101]]) (by simp) (by simp) hb
      simp only [List.mem_cons, List.mem_nil_iff, or_false] at g1
      rcases g1 with rfl | rfl | rfl
      · exact ⟨_, b', g2, tb_lit (by decide), g3⟩
      · exact ⟨_, b', g2, tb_lit (by decide), g3⟩
      · exact ⟨_, b', g2, tb_lit (by decide), g3⟩
    by_cases c2 : s < 2
    · have i1 : decide (((s : Nat) : Int) < 2) = true := decide_eq_true (by omega)
      obtain ⟨t, b', g1, g2, g3⟩ := first (n + 3) box (hB.mono (by omega))
      refine ⟨t, b', run (ρ := [some b', some (.int (s : Nat)), none, none]) rfl ?_, g1.mono (by omega), g2.mono (by omega) (Nat.le_refl _)⟩
      unfold d51
      simp only [EV.v_lit, EV.v_var, EV.v_glob, EV.v_fn, EV.v_un, EV.v_bin, EV.v_slL, EV.v_slH, EV.v_slLH, EV.v_tup, EV.v_lst, EV.v_and, EV.v_or, EV.v_not, EV.v_ite, EV.v_chain, EV.v_call, EV.v_callF, EV.v_callIo, EV.v_callT, EV.v_callv, EV.v_nil, EV.v_cons, EV.v_seq, EV.v_enum, EV.v_zip, EV.v_rng1, EV.v_C, s_asg', s_asgO', s_asg2', s_expr', s_ret', s_retN', s_if', s_raise', ss_nil', ss_cons', r_ok, r_exc, r_opt, t_nm, cr_ok, cr_exc, cr_okS, List.getD_cons_zero, List.getD_cons_succ, List.set_cons_zero, List.set_cons_succ, B.pre, B.ev, Cm.ev, U.ev, D.truth, D.toInt, D.items, if_true, if_false, Bool.not_true, Bool.not_false, reduceCtorEq, Option.map_some, Option.bind_some, List.length_cons, List.length_nil, Nat.zero_add, Nat.reduceAdd, Nat.reduceLT, Nat.reduceLeDiff, Bool.and_true, Bool.true_and, decide_true, i1, g3]
    · have i1 : decide (((s : Nat) : Int) < 2) = false := decide_eq_false (by omega)
      obtain ⟨r, b1, r0, r1, hb1, ht1⟩ := take_ok (lv + f + 1) (n + 4 * s - 1) (z := 3) (by decide) (by decide) (hB.mono (by omega))
      have ht1 : C (lv + f + 2) 38 [box, .int 3] = .ok (.int r) b1 := ht1
      by_cases c0 : r = 0
      · have i2 : (r == 0) = true := by rw [c0]; rfl
        obtain ⟨t, b', g1, g2, g3⟩ := first (n + 4 * s - 2) b1 (hb1.mono (by omega))
        refine ⟨t, b', run (ρ := [some b', some (.int (s : Nat)), none, none]) rfl ?_, g1.mono (by omega), g2.mono (by omega) (Nat.le_refl _)⟩
        unfold d51
        simp only [EV.v_lit, EV.v_var, EV.v_glob, EV.v_fn, EV.v_un, EV.v_bin, EV.v_slL, EV.v_slH, EV.v_slLH, EV.v_tup, EV.v_lst, EV.v_and, EV.v_or, EV.v_not, EV.v_ite, EV.v_chain, EV.v_call, EV.v_callF, EV.v_callIo, EV.v_callT, EV.v_callv, EV.v_nil, EV.v_cons, EV.v_seq, EV.v_enum, EV.v_zip, EV.v_rng1, EV.v_C, s_asg', s_asgO', s_asg2', s_expr', s_ret', s_retN', s_if', s_raise', ss_nil', ss_cons', r_ok, r_exc, r_opt, t_nm, cr_ok, cr_exc, cr_okS, List.getD_cons_zero, List.getD_cons_succ, List.set_cons_zero, List.set_cons_succ, B.pre, B.ev, Cm.ev, U.ev, D.truth, D.toInt, D.items, if_true, if_false, Bool.not_true, Bool.not_false, reduceCtorEq, Option.map_some, Option.bind_some, List.length_cons, List.length_nil, Nat.zero_add, Nat.reduceAdd, Nat.reduceLT, Nat.reduceLeDiff, Bool.and_true, Bool.true_and, decide_true, i1, ht1, eq_ii, i2, g3]
      · have i2 : (r == 0) = false := by rw [beq_eq_false_iff_ne]; exact c0
        have hz : 0 < (if ((s : Nat) : Int) - 1 < 3 then ((s : Nat) : Int) - 1 else 3) ∧ (if ((s : Nat) : Int) - 1 < 3 then ((s : Nat) : Int) - 1 else 3) ≤ 3 ∧ (if ((s : Nat) : Int) - 1 < 3 then ((s : Nat) : Int) - 1 else 3) ≤ ((s : Nat) : Int) - 1 := by
          split <;> omega
        obtain ⟨r2, b2, s0, s1, hb2, ht2⟩ := take_ok (lv + f + 1) (n + 4 * s - 2) (z := if ((s : Nat) : Int) - 1 < 3 then ((s : Nat) : Int) - 1 else 3) hz.1 (by omega) (hb1.mono (by omega))
        have ht2 : C (lv + f + 2) 38 [b1, .int (if ((s : Nat) : Int) - 1 < 3 then ((s : Nat) : Int) - 1 else 3)] = .ok (.int r2) b2 := ht2
        obtain ⟨m, hm⟩ : ∃ m : Nat, 1 + r2 = (m : Nat) := ⟨(1 + r2).toNat, by omega⟩
        obtain ⟨d, b3, g1, g2, g3⟩ := of_ok (lv + f) (n + 4 * s - 3) (ds := [.str [102], .str [116, 111]]) (by simp) (by simp) (hb2.mono (by omega))
        obtain ⟨w, rfl, hw⟩ : ∃ w, d = .str w ∧ TB 2 0 w := by
          simp only [List.mem_cons, List.mem_nil_iff, or_false] at g1
          rcases g1 with rfl | rfl
          · exact ⟨_, rfl, tb_lit (by decide)⟩
          · exact ⟨_, rfl, tb_lit (by decide)⟩
        have hm1 : 1 ≤ m := by omega
        have hm3 : m ≤ 3 := by omega
        have hms : m ≤ s - 1 := by omega
        have hq1 : 1 ≤ (s - 1) / m := (Nat.le_div_iff_mul_le (by omega)).mpr (by omega)
        have hqm : m * ((s - 1) / m) ≤ s - 1 := Nat.mul_div_le _ _
        have hqs : (s - 1) / m ≤ s - 1 := Nat.div_le_self _ _
        have e4 : m * (4 * ((s - 1) / m)) = 4 * (m * ((s - 1) / m)) := Nat.mul_left_comm _ _ _
        have e8 : m * (8 * ((s - 1) / m)) = 8 * (m * ((s - 1) / m)) := Nat.mul_left_comm _ _ _
        have hdv : (((s : Nat) : Int) - 1) / ((m : Nat) : Int) = (((s - 1) / m : Nat) : Int) := by
          rw [show ((s : Nat) : Int) - 1 = ((s - 1 : Nat) : Int) by omega]
          exact (Int.natCast_ediv _ _).symm
        have fd : (0 : Int) < ((m : Nat) : Int) ∧ ((m : Nat) : Int).natAbs.log2 < 9000 := log_le (by omega) (by omega)
        obtain ⟨ds, b4, k1, k2, k3, k4⟩ := comp_box (c := C (lv + f + 2)) (nm := "k") (j := 2) (it := .range1 (.var 2)) (elt := .callIo 51 0 (.cons (.bin .fdiv (.bin .sub (.var 1) (.lit (.int 1))) (.var 2)) .nil)) (rest := [some (.int (s : Nat)), some (.int (m : Nat)), none]) (m := m) (Q := fun d => ∃ t, d = .str t ∧ TB (8 * ((s - 1) / m)) 0 t) (4 * ((s - 1) / m)) n (box := b3) (range_ev (lv + f + 2) rfl (by omega)) (by simp) (by omega) (g2.mono (by omega)) (fun x n' bx hbx => by
          obtain ⟨t, b', p1, p2, p3⟩ := ih ((s - 1) / m) n' lv bx hq1 (by omega) (by omega) hbx
          refine ⟨.str t, b', ?_, p2, t, rfl, p3⟩
          show evE _ _ [some bx, some (.int (s : Nat)), some (.int (m : Nat)), some x] = R.ok _ [some b', some (.int (s : Nat)), some (.int (m : Nat)), some x]
          simp only [EV.v_lit, EV.v_var, EV.v_glob, EV.v_fn, EV.v_un, EV.v_bin, EV.v_slL, EV.v_slH, EV.v_slLH, EV.v_tup, EV.v_lst, EV.v_and, EV.v_or, EV.v_not, EV.v_ite, EV.v_chain, EV.v_call, EV.v_callF, EV.v_callIo, EV.v_callT, EV.v_callv, EV.v_nil, EV.v_cons, EV.v_seq, EV.v_enum, EV.v_zip, EV.v_rng1, EV.v_C, s_asg', s_asgO', s_asg2', s_expr', s_ret', s_retN', s_if', s_raise', ss_nil', ss_cons', r_ok, r_exc, r_opt, t_nm, cr_ok, cr_exc, cr_okS, List.getD_cons_zero, List.getD_cons_succ, List.set_cons_zero, List.set_cons_succ, B.pre, B.ev, Cm.ev, U.ev, D.truth, D.toInt, D.items, if_true, if_false, Bool.not_true, Bool.not_false, reduceCtorEq, Option.map_some, Option.bind_some, List.length_cons, List.length_nil, Nat.zero_add, Nat.reduceAdd, Nat.reduceLT, Nat.reduceLeDiff, Bool.and_true, Bool.true_and, decide_true, if_pos fd, hdv, p1])
        obtain ⟨ts, rfl, k5, k6⟩ := strs_of k4
        have hlen : ts.length = m := by simpa using k3
        have tj := TB.join (l := 1) (b := 0) (S := [44]) (tb_lit (by decide)) k6
        rw [hlen] at tj
        have tall : TB (8 * s) 0 (w ++ [40] ++ TL.joinL [44] ts ++ [41]) := by
          have o1 : TB 1 0 [40] := tb_lit (by decide)
          have o2 : TB 1 0 [41] := tb_lit (by decide)
          refine (((hw.app o1).app tj).app o2).mono ?_ ?_
          · omega
          · omega
        have L1 := hw.len
        have L2 := tj.len
        have j1 : w.length + 1 ≤ sizeLine := len_le (by omega)
        have j2 : (w ++ [40]).length + (TL.joinL [44] ts).length ≤ sizeLine := len_le (by simp only [List.length_append, List.length_cons, List.length_nil]; omega)
        have j3 : (w ++ [40] ++ TL.joinL [44] ts).length + 1 ≤ sizeLine := len_le (by simp only [List.length_append, List.length_cons, List.length_nil]; omega)
        have j0 : (ts.map (·.length)).sum + ts.length * 1 ≤ 16777216 := by
          have := join_sum [44] ts
          simp only [List.length_cons, List.length_nil] at this
          omega
        have k1 : evE (C (lv + f + 2)) (.comp [("k", 3)] (.nm 3) (.range1 (.var 2)) (.callIo 51 0 (.cons (.bin .fdiv (.bin .sub (.var 1) (.lit (.int 1))) (.var 2)) .nil))) [some b3, some (.int (s : Nat)), some (.int (m : Nat)), none] = .ok (.lst (ts.map .str)) [some b4, some (.int (s : Nat)), some (.int (m : Nat)), none] := k1
        have a1 : evS (C (lv + f + 2)) wf0 (.if_ (.or_ (.bin (.cmp .lt) (.var 1) (.lit (.int 2))) (.bin (.cmp .eq) (.callIo 38 0 (.cons (.lit (.int 3)) .nil)) (.lit (.int 0)))) (.cons (.ret (.callIo 41 0 (.cons (.lst (.cons (.lit (.str [97])) (.cons (.lit (.str [98])) (.cons (.lit (.str [108, 111, 110, 103, 110, 97, 109, 101])) .nil)))) .nil))) .nil) .nil) [some box, some (.int (s : Nat)), none, none] = .ok .nx [some b1, some (.int (s : Nat)), none, none] := by
          simp only [EV.v_lit, EV.v_var, EV.v_glob, EV.v_fn, EV.v_un, EV.v_bin, EV.v_slL, EV.v_slH, EV.v_slLH, EV.v_tup, EV.v_lst, EV.v_and, EV.v_or, EV.v_not, EV.v_ite, EV.v_chain, EV.v_call, EV.v_callF, EV.v_callIo, EV.v_callT, EV.v_callv, EV.v_nil, EV.v_cons, EV.v_seq, EV.v_enum, EV.v_zip, EV.v_rng1, EV.v_C, s_asg', s_asgO', s_asg2', s_expr', s_ret', s_retN', s_if', s_raise', ss_nil', ss_cons', r_ok, r_exc, r_opt, t_nm, cr_ok, cr_exc, cr_okS, List.getD_cons_zero, List.getD_cons_succ, List.set_cons_zero, List.set_cons_succ, B.pre, B.ev, Cm.ev, U.ev, D.truth, D.toInt, D.items, if_true, if_false, Bool.not_true, Bool.not_false, reduceCtorEq, Option.map_some, Option.bind_some, List.length_cons, List.length_nil, Nat.zero_add, Nat.reduceAdd, Nat.reduceLT, Nat.reduceLeDiff, Bool.and_true, Bool.true_and, decide_true, i1, ht1, eq_ii, i2]
        have a2 : evS (C (lv + f + 2)) wf0 (.asg (.nm 2) (.bin .add (.lit (.int 1)) (.callIo 38 0 (.cons (.bin .min2 (.lit (.int 3)) (.bin .sub (.var 1) (.lit (.int 1)))) .nil)))) [some b1, some (.int (s : Nat)), none, none] = .ok .nx [some b2, some (.int (s : Nat)), some (.int (m : Nat)), none] := by
          simp only [EV.v_lit, EV.v_var, EV.v_glob, EV.v_fn, EV.v_un, EV.v_bin, EV.v_slL, EV.v_slH, EV.v_slLH, EV.v_tup, EV.v_lst, EV.v_and, EV.v_or, EV.v_not, EV.v_ite, EV.v_chain, EV.v_call, EV.v_callF, EV.v_callIo, EV.v_callT, EV.v_callv, EV.v_nil, EV.v_cons, EV.v_seq, EV.v_enum, EV.v_zip, EV.v_rng1, EV.v_C, s_asg', s_asgO', s_asg2', s_expr', s_ret', s_retN', s_if', s_raise', ss_nil', ss_cons', r_ok, r_exc, r_opt, t_nm, cr_ok, cr_exc, cr_okS, List.getD_cons_zero, List.getD_cons_succ, List.set_cons_zero, List.set_cons_succ, B.pre, B.ev, Cm.ev, U.ev, D.truth, D.toInt, D.items, if_true, if_false, Bool.not_true, Bool.not_false, reduceCtorEq, Option.map_some, Option.bind_some, List.length_cons, List.length_nil, Nat.zero_add, Nat.reduceAdd, Nat.reduceLT, Nat.reduceLeDiff, Bool.and_true, Bool.true_and, decide_true, ht2, hm]
        have a3 : evS (C (lv + f + 2)) wf0 (.ret (.bin .add (.bin .add (.bin .add (.callIo 41 0 (.cons (.lst (.cons (.lit (.str [102])) (.cons (.lit (.str [116, 111])) .nil))) .nil)) (.lit (.str [40]))) (.bin .join (.lit (.str [44])) (.comp [("k", 3)] (.nm 3) (.range1 (.var 2)) (.callIo 51 0 (.cons (.bin .fdiv (.bin .sub (.var 1) (.lit (.int 1))) (.var 2)) .nil))))) (.lit (.str [41])))) [some b2, some (.int (s : Nat)), some (.int (m : Nat)), none] = .ok (.ret (.str (w ++ [40] ++ TL.joinL [44] ts ++ [41]))) [some b4, some (.int (s : Nat)), some (.int (m : Nat)), none] := by
          have q1 : evE (C (lv + f + 2)) (.bin .add (.callIo 41 0 (.cons (.lst (.cons (.lit (.str [102])) (.cons (.lit (.str [116, 111])) .nil))) .nil)) (.lit (.str [40]))) [some b2, some (.int (s : Nat)), some (.int (m : Nat)), none] = .ok (.str (w ++ [40])) [some b3, some (.int (s : Nat)), some (.int (m : Nat)), none] := by
            simp only [EV.v_lit, EV.v_var, EV.v_glob, EV.v_fn, EV.v_un, EV.v_bin, EV.v_slL, EV.v_slH, EV.v_slLH, EV.v_tup, EV.v_lst, EV.v_and, EV.v_or, EV.v_not, EV.v_ite, EV.v_chain, EV.v_call, EV.v_callF, EV.v_callIo, EV.v_callT, EV.v_callv, EV.v_nil, EV.v_cons, EV.v_seq, EV.v_enum, EV.v_zip, EV.v_rng1, EV.v_C, s_asg', s_asgO', s_asg2', s_expr', s_ret', s_retN', s_if', s_raise', ss_nil', ss_cons', r_ok, r_exc, r_opt, t_nm, cr_ok, cr_exc, cr_okS, List.getD_cons_zero, List.getD_cons_succ, List.set_cons_zero, List.set_cons_succ, B.pre, B.ev, Cm.ev, U.ev, D.truth, D.toInt, D.items, if_true, if_false, Bool.not_true, Bool.not_false, reduceCtorEq, Option.map_some, Option.bind_some, List.length_cons, List.length_nil, Nat.zero_add, Nat.reduceAdd, Nat.reduceLT, Nat.reduceLeDiff, Bool.and_true, Bool.true_and, decide_true, g3, if_pos j1]
          have q2 : evE (C (lv + f + 2)) (.bin .join (.lit (.str [44])) (.comp [("k", 3)] (.nm 3) (.range1 (.var 2)) (.callIo 51 0 (.cons (.bin .fdiv (.bin .sub (.var 1) (.lit (.int 1))) (.var 2)) .nil)))) [some b3, some (.int (s : Nat)), some (.int (m : Nat)), none] = .ok (.str (TL.joinL [44] ts)) [some b4, some (.int (s : Nat)), some (.int (m : Nat)), none] := by
            rw [v_bin, EV.v_lit, r_ok, if_pos (show B.pre .join (.str [44]) = true from rfl), k1, r_ok]
            have : B.join.ev (.str [44]) (.lst (ts.map .str)) = some (.str (TL.joinL [44] ts)) := by
              simp only [B.ev]
              rw [k5]
              simp only [Option.bind_some]
              exact if_pos j0
            rw [this, r_opt]
          rw [s_ret', EV.v_bin, EV.v_bin, q1, r_ok]
          simp only [EV.v_lit, EV.v_var, EV.v_glob, EV.v_fn, EV.v_un, EV.v_bin, EV.v_slL, EV.v_slH, EV.v_slLH, EV.v_tup, EV.v_lst, EV.v_and, EV.v_or, EV.v_not, EV.v_ite, EV.v_chain, EV.v_call, EV.v_callF, EV.v_callIo, EV.v_callT, EV.v_callv, EV.v_nil, EV.v_cons, EV.v_seq, EV.v_enum, EV.v_zip, EV.v_rng1, EV.v_C, s_asg', s_asgO', s_asg2', s_expr', s_ret', s_retN', s_if', s_raise', ss_nil', ss_cons', r_ok, r_exc, r_opt, t_nm, cr_ok, cr_exc, cr_okS, List.getD_cons_zero, List.getD_cons_succ, List.set_cons_zero, List.set_cons_succ, B.pre, B.ev, Cm.ev, U.ev, D.truth, D.toInt, D.items, if_true, if_false, Bool.not_true, Bool.not_false, reduceCtorEq, Option.map_some, Option.bind_some, List.length_cons, List.length_nil, Nat.zero_add, Nat.reduceAdd, Nat.reduceLT, Nat.reduceLeDiff, Bool.and_true, Bool.true_and, decide_true, q2, if_pos j2, if_pos j3]
        refine ⟨_, b4, run (ρ := [some b4, some (.int (s : Nat)), some (.int (m : Nat)), none]) rfl ?_, k2, tall⟩
        unfold d51
        rw [ss_cons', a1, r_ok]
        show evSs _ _ _ _ = _
        rw [ss_cons', a2, r_ok]
        show evSs _ _ _ _ = _
        rw [ss_cons', a3, r_ok]
theorem law_term_ok : ∀ f, TermP f
  | 0 => fun s _ _ _ h1 h2 _ _ => by omega
  | f + 1 => law_term_step f (law_term_ok f)
end K49
end
section
set_option autoImplicit false
/-! Q49g: texts of every kind drawn. -/
namespace K49
open PySem EV

theorem seq_nx {c : Nat → List D → CR} {wf : Nat} {s : S} {ss : Ss} {ρ : EV.Env} {r : R Fl} (ρ1 : EV.Env) (h : evS c wf s ρ = .ok .nx ρ1) (h2 : evSs c wf ss ρ1 = r) : evSs c wf (.cons s ss) ρ = r := by
  rw [ss_cons', h, r_ok]
  exact h2
theorem seq_ret {c : Nat → List D → CR} {wf : Nat} {s : S} {ss : Ss} {ρ ρ1 : EV.Env} {d : D} (h : evS c wf s ρ = .ok (.ret d) ρ1) : evSs c wf (.cons s ss) ρ = .ok (.ret d) ρ1 := by
  rw [ss_cons', h, r_ok]
theorem if_no {c : Nat → List D → CR} {wf : Nat} {g : E} {sa sb : Ss} {ρ : EV.Env} {r : R Fl} (ρ1 : EV.Env) (h : evC c g ρ = .ok false ρ1) (h2 : evSs c wf sb ρ1 = r) : evS c wf (.if_ g sa sb) ρ = r := by
  rw [s_if', h, r_ok, if_neg Bool.false_ne_true]
  exact h2
theorem if_yes {c : Nat → List D → CR} {wf : Nat} {g : E} {sa sb : Ss} {ρ : EV.Env} {r : R Fl} (ρ1 : EV.Env) (h : evC c g ρ = .ok true ρ1) (h2 : evSs c wf sa ρ1 = r) : evS c wf (.if_ g sa sb) ρ = r := by
  rw [s_if', h, r_ok, if_pos rfl]
  exact h2
theorem join_go {c : Nat → List D → CR} {a : E} {ρ ρ1 : EV.Env} {S : List Nat} {ts : List (List Nat)} {ds : List D} (hk : evE c a ρ = .ok (.lst ds) ρ1) (hs : D.strs ds = some ts) (hl : (ts.map (·.length)).sum + ts.length * S.length ≤ 16777216) : evE c (.bin .join (.lit (.str S)) a) ρ = .ok (.str (TL.joinL S ts)) ρ1 := by
  rw [v_bin, EV.v_lit, r_ok, if_pos (show B.pre .join (.str S) = true from rfl), hk, r_ok]
  have : B.join.ev (.str S) (.lst ds) = some (.str (TL.joinL S ts)) := by
    simp only [B.ev]
    rw [hs]
    simp only [Option.bind_some]
    exact if_pos hl
  rw [this, r_opt]
theorem numL_tb : ∀ (d k : Nat), k < 10 ^ (d + 1) → TB (d + 1) 0 (TL.numL k)
  | d, k, h => by
    by_cases c : k < 10
    · rw [TL.numL_lt c]
      refine ⟨by simp, ?_, fun x hx => ?_⟩
      · have : (48 + k == 32) = false := by rw [beq_eq_false_iff_ne]; omega
        simp [List.count_cons, this]
        all_goals omega
      · simp at hx
        omega
    · cases d with
      | zero => omega
      | succ d =>
        rw [TL.numL_step (by omega)]
        have ih := numL_tb d (k / 10) (by rw [Nat.pow_succ] at h; omega)
        refine (ih.app (L' := 1) (B' := 0) ⟨by simp, ?_, fun x hx => ?_⟩).mono (by omega) (by omega)
        · simp [List.count_cons]
          all_goals omega
        · simp at hx
          omega
theorem str_nat (k : Nat) (h : k < 2 ^ 20) : U.str.ev (.int (k : Nat)) = some (.str (TL.numL k)) := by
  show (if ((k : Nat) : Int).natAbs.log2 < 1920 then some (D.str (numText ((k : Nat) : Int))) else none) = _
  rw [if_pos ?_]
  · show some (D.str (TL.tl (Str.ofString (toString ((k : Nat) : Int))))) = _
    rw [TL.tl_num]
  · rw [Int.natAbs_natCast]
    by_cases hz : k = 0
    · rw [hz]; decide
    · refine (Nat.log2_lt hz).mpr ?_
      exact Nat.lt_of_lt_of_le h (Nat.pow_le_pow_right (by decide) (by decide))
theorem text_run (lv : Nat) {box box' d : D} {door : Int} {ρ : EV.Env} (h0 : ρ.getD 0 none = some box') (hb : evSs (C (lv + 11)) wf0 d52.body [some box, some (.int door), none, none, none] = .ok (.ret d) ρ) : C (lv + 12) 52 [box, .int door] = .ok d box' := by
  show C (lv + 11 + 1) 52 _ = _
  rw [C_succ (di := d52) rfl, run_of (di := d52) (ds := [box, .int door]) rfl hb, h0]
  rfl
theorem text0 (lv n : Nat) {box : D} (hB : BoxB (n + 80) box) : ∃ t box', C (lv + 12) 52 [box, .int 0] = .ok (.str t) box' ∧ BoxB n box' ∧ TB 160 8 t := by
  obtain ⟨t, b, h1, h2, h3⟩ := law_term_ok 7 7 (n + 52) (lv + 2) box (by decide) (by decide) (by decide) hB
  have h1 : C (lv + 11) 51 [box, .int 7] = .ok (.str t) b := h1
  refine ⟨t, b, text_run lv (ρ := [some b, some (.int 0), none, none, none]) rfl ?_, h2.mono (by omega), h3.mono (by decide) (by decide)⟩
  have i1 : ((0 : Int) == 0) = true := rfl
  unfold d52
  simp only [EV.v_lit, EV.v_var, EV.v_glob, EV.v_fn, EV.v_un, EV.v_bin, EV.v_slL, EV.v_slH, EV.v_slLH, EV.v_tup, EV.v_lst, EV.v_and, EV.v_or, EV.v_not, EV.v_ite, EV.v_chain, EV.v_call, EV.v_callF, EV.v_callIo, EV.v_callT, EV.v_callv, EV.v_nil, EV.v_cons, EV.v_seq, EV.v_enum, EV.v_zip, EV.v_rng1, EV.v_C, s_asg', s_asgO', s_asg2', s_expr', s_ret', s_retN', s_if', s_raise', ss_nil', ss_cons', r_ok, r_exc, r_opt, t_nm, cr_ok, cr_exc, cr_okS, List.getD_cons_zero, List.getD_cons_succ, List.set_cons_zero, List.set_cons_succ, B.pre, B.ev, Cm.ev, U.ev, D.truth, D.toInt, D.items, if_true, if_false, Bool.not_true, Bool.not_false, reduceCtorEq, Option.map_some, Option.bind_some, List.length_cons, List.length_nil, Nat.zero_add, Nat.reduceAdd, Nat.reduceLT, Nat.reduceLeDiff, Bool.and_true, Bool.true_and, decide_true, eq_ii, i1, h1]
theorem text1 (lv n : Nat) {box : D} (hB : BoxB (n + 80) box) : ∃ t box', C (lv + 12) 52 [box, .int 1] = .ok (.str t) box' ∧ BoxB n box' ∧ TB 160 8 t := by
  obtain ⟨t, b, h1, h2, h3⟩ := law_term_ok 7 4 (n + 64) (lv + 2) box (by decide) (by decide) (by decide) hB
  obtain ⟨t', b', g1, g2, g3⟩ := law_term_ok 7 4 (n + 48) (lv + 2) b (by decide) (by decide) (by decide) h2
  have h1 : C (lv + 11) 51 [box, .int 4] = .ok (.str t) b := h1
  have g1 : C (lv + 11) 51 [b, .int 4] = .ok (.str t') b' := g1
  have L1 := h3.len
  have L2 := g3.len
  have j1 : t.length + 4 ≤ sizeLine := len_le (by omega)
  have j2 : (t ++ [32, 116, 111, 32]).length + t'.length ≤ sizeLine := len_le (by simp only [List.length_append, List.length_cons, List.length_nil]; omega)
  refine ⟨t ++ [32, 116, 111, 32] ++ t', b', text_run lv (ρ := [some b', some (.int 1), none, none, none]) rfl ?_, g2.mono (by omega), ?_⟩
  · have i1 : ((1 : Int) == 0) = false := rfl
    have i2 : ((1 : Int) == 1) = true := rfl
    unfold d52
    simp only [EV.v_lit, EV.v_var, EV.v_glob, EV.v_fn, EV.v_un, EV.v_bin, EV.v_slL, EV.v_slH, EV.v_slLH, EV.v_tup, EV.v_lst, EV.v_and, EV.v_or, EV.v_not, EV.v_ite, EV.v_chain, EV.v_call, EV.v_callF, EV.v_callIo, EV.v_callT, EV.v_callv, EV.v_nil, EV.v_cons, EV.v_seq, EV.v_enum, EV.v_zip, EV.v_rng1, EV.v_C, s_asg', s_asgO', s_asg2', s_expr', s_ret', s_retN', s_if', s_raise', ss_nil', ss_cons', r_ok, r_exc, r_opt, t_nm, cr_ok, cr_exc, cr_okS, List.getD_cons_zero, List.getD_cons_succ, List.set_cons_zero, List.set_cons_succ, B.pre, B.ev, Cm.ev, U.ev, D.truth, D.toInt, D.items, if_true, if_false, Bool.not_true, Bool.not_false, reduceCtorEq, Option.map_some, Option.bind_some, List.length_cons, List.length_nil, Nat.zero_add, Nat.reduceAdd, Nat.reduceLT, Nat.reduceLeDiff, Bool.and_true, Bool.true_and, decide_true, eq_ii, i1, i2, h1, g1, if_pos j1, if_pos j2]
  · have ht : TB 4 2 [32, 116, 111, 32] := ⟨by decide, by decide, by decide⟩
    exact ((h3.app ht).app g3).mono (by decide) (by decide)
/-- how many -/
theorem many_ok (lv n : Nat) {box : D} (hB : BoxB (n + 1) box) : ∃ (m : Nat) (box' : D), m ≤ 3 ∧ BoxB n box' ∧ C (lv + 11) 38 [box, .int 4] = .ok (.int (m : Nat)) box' := by
  obtain ⟨r, b, r0, r1, hb, ht⟩ := take_ok (lv + 10) n (z := 4) (by decide) (by decide) hB
  obtain ⟨m, rfl⟩ : ∃ m : Nat, r = (m : Nat) := ⟨r.toNat, by omega⟩
  exact ⟨m, b, by omega, hb, ht⟩
theorem sum_le {L : Nat} : ∀ {ts : List (List Nat)}, (∀ t ∈ ts, t.length ≤ L) → (ts.map (·.length)).sum ≤ ts.length * L
  | [], _ => by simp
  | t :: ts, h => by
    have ih := sum_le fun x hx => h x (List.mem_cons_of_mem t hx)
    have := h t List.mem_cons_self
    rw [List.map_cons, List.sum_cons, List.length_cons, Nat.succ_mul]
    omega
theorem join_small {S : List Nat} {ts : List (List Nat)} {L B : Nat} (hL : L ≤ 100) (hS : S.length ≤ 10) (h : ∀ t ∈ ts, TB L B t) (hn : ts.length ≤ 3) : (ts.map (·.length)).sum + ts.length * S.length ≤ 16777216 := by
  have h1 := sum_le fun t ht => (h t ht).len
  have e1 : ts.length * L ≤ 3 * 100 := Nat.mul_le_mul hn hL
  have e2 : ts.length * S.length ≤ 3 * 10 := Nat.mul_le_mul hn hS
  omega
theorem dash_tb : TB 160 8 [45] := ⟨by decide, by decide, by decide⟩
theorem text2 (lv n : Nat) {box : D} (hB : BoxB (n + 80) box) : ∃ t box', C (lv + 12) 52 [box, .int 2] = .ok (.str t) box' ∧ BoxB n box' ∧ TB 160 8 t := by
  obtain ⟨m, b1, hm, hb1, ht1⟩ := many_ok lv (n + 79) hB
  have i1 : ((2 : Int) == 0) = false := rfl
  have i2 : ((2 : Int) == 1) = false := rfl
  have i3 : ((2 : Int) == 2) = true := rfl
  by_cases c0 : m = 0
  · subst c0
    have i0 : (((0 : Nat) : Int) == 0) = true := rfl
    refine ⟨_, b1, text_run lv (ρ := [some b1, some (.int 2), some (.int ((0 : Nat) : Int)), none, none]) rfl ?_, hb1.mono (by omega), dash_tb⟩
    unfold d52
    simp only [EV.v_lit, EV.v_var, EV.v_glob, EV.v_fn, EV.v_un, EV.v_bin, EV.v_slL, EV.v_slH, EV.v_slLH, EV.v_tup, EV.v_lst, EV.v_and, EV.v_or, EV.v_not, EV.v_ite, EV.v_chain, EV.v_call, EV.v_callF, EV.v_callIo, EV.v_callT, EV.v_callv, EV.v_nil, EV.v_cons, EV.v_seq, EV.v_enum, EV.v_zip, EV.v_rng1, EV.v_C, s_asg', s_asgO', s_asg2', s_expr', s_ret', s_retN', s_if', s_raise', ss_nil', ss_cons', r_ok, r_exc, r_opt, t_nm, cr_ok, cr_exc, cr_okS, List.getD_cons_zero, List.getD_cons_succ, List.set_cons_zero, List.set_cons_succ, B.pre, B.ev, Cm.ev, U.ev, D.truth, D.toInt, D.items, if_true, if_false, Bool.not_true, Bool.not_false, reduceCtorEq, Option.map_some, Option.bind_some, List.length_cons, List.length_nil, Nat.zero_add, Nat.reduceAdd, Nat.reduceLT, Nat.reduceLeDiff, Bool.and_true, Bool.true_and, decide_true, eq_ii, i1, i2, ht1, i0]
  · have i0 : (((m : Nat) : Int) == 0) = false := by rw [beq_eq_false_iff_ne]; omega
    obtain ⟨ds, b4, k1, k2, k3, k4⟩ := comp_box (c := C (lv + 11)) (nm := "k") (j := 3) (it := .range1 (.var 2)) (elt := .bin .add (.bin .add (.callIo 51 0 (.cons (.lit (.int 3)) .nil)) (.lit (.str [32, 116, 111, 32]))) (.callIo 51 0 (.cons (.lit (.int 3)) .nil))) (rest := [some (.int 2), some (.int (m : Nat)), none, none]) (m := m) (Q := fun d => ∃ t, d = .str t ∧ TB 52 2 t) 24 n (box := b1) (range_ev (lv + 11) rfl (by omega)) (by simp) (by omega) (hb1.mono (by omega)) (fun x n' bx hbx => by
      obtain ⟨t, b, h1, h2, h3⟩ := law_term_ok 7 3 (n' + 12) (lv + 2) bx (by decide) (by decide) (by decide) hbx
      obtain ⟨t', b', g1, g2, g3⟩ := law_term_ok 7 3 n' (lv + 2) b (by decide) (by decide) (by decide) h2
      have h1 : C (lv + 11) 51 [bx, .int 3] = .ok (.str t) b := h1
      have g1 : C (lv + 11) 51 [b, .int 3] = .ok (.str t') b' := g1
      have L1 := h3.len
      have L2 := g3.len
      have j1 : t.length + 4 ≤ sizeLine := len_le (by omega)
      have j2 : (t ++ [32, 116, 111, 32]).length + t'.length ≤ sizeLine := len_le (by simp only [List.length_append, List.length_cons, List.length_nil]; omega)
      refine ⟨.str (t ++ [32, 116, 111, 32] ++ t'), b', ?_, g2, _, rfl, ?_⟩
      · show evE _ _ [some bx, some (.int 2), some (.int (m : Nat)), none, some x] = R.ok _ [some b', some (.int 2), some (.int (m : Nat)), none, some x]
        simp only [EV.v_lit, EV.v_var, EV.v_glob, EV.v_fn, EV.v_un, EV.v_bin, EV.v_slL, EV.v_slH, EV.v_slLH, EV.v_tup, EV.v_lst, EV.v_and, EV.v_or, EV.v_not, EV.v_ite, EV.v_chain, EV.v_call, EV.v_callF, EV.v_callIo, EV.v_callT, EV.v_callv, EV.v_nil, EV.v_cons, EV.v_seq, EV.v_enum, EV.v_zip, EV.v_rng1, EV.v_C, s_asg', s_asgO', s_asg2', s_expr', s_ret', s_retN', s_if', s_raise', ss_nil', ss_cons', r_ok, r_exc, r_opt, t_nm, cr_ok, cr_exc, cr_okS, List.getD_cons_zero, List.getD_cons_succ, List.set_cons_zero, List.set_cons_succ, B.pre, B.ev, Cm.ev, U.ev, D.truth, D.toInt, D.items, if_true, if_false, Bool.not_true, Bool.not_false, reduceCtorEq, Option.map_some, Option.bind_some, List.length_cons, List.length_nil, Nat.zero_add, Nat.reduceAdd, Nat.reduceLT, Nat.reduceLeDiff, Bool.and_true, Bool.true_and, decide_true, h1, g1, if_pos j1, if_pos j2]
      · have ht : TB 4 2 [32, 116, 111, 32] := ⟨by decide, by decide, by decide⟩
        exact ((h3.app ht).app g3).mono (by decide) (by decide))
    obtain ⟨ts, rfl, k5, k6⟩ := strs_of k4
    have hlen : ts.length = m := by simpa using k3
    have hj := join_go (S := [59, 32]) k1 k5 (join_small (by decide) (by decide) k6 (by omega))
    have tj := TB.join (l := 2) (b := 1) (S := [59, 32]) ⟨by decide, by decide, by decide⟩ k6
    rw [hlen] at tj
    refine ⟨_, b4, text_run lv (ρ := [some b4, some (.int 2), some (.int (m : Nat)), none, none]) rfl ?_, k2, tj.mono (by omega) (by omega)⟩
    have hr : evS (C (lv + 11)) wf0 (.ret (.bin .join (.lit (.str [59, 32])) (.comp [("k", 4)] (.nm 4) (.range1 (.var 2)) (.bin .add (.bin .add (.callIo 51 0 (.cons (.lit (.int 3)) .nil)) (.lit (.str [32, 116, 111, 32]))) (.callIo 51 0 (.cons (.lit (.int 3)) .nil)))))) [some b1, some (.int 2), some (.int (m : Nat)), none, none] = .ok (.ret (.str (TL.joinL [59, 32] ts))) [some b4, some (.int 2), some (.int (m : Nat)), none, none] := by
      rw [s_ret', show evE _ _ _ = _ from hj, r_ok]
    unfold d52
    refine seq_nx [some box, some (.int 2), none, none, none] (if_no [some box, some (.int 2), none, none, none] (by simp only [EV.v_lit, EV.v_var, EV.v_glob, EV.v_fn, EV.v_un, EV.v_bin, EV.v_slL, EV.v_slH, EV.v_slLH, EV.v_tup, EV.v_lst, EV.v_and, EV.v_or, EV.v_not, EV.v_ite, EV.v_chain, EV.v_call, EV.v_callF, EV.v_callIo, EV.v_callT, EV.v_callv, EV.v_nil, EV.v_cons, EV.v_seq, EV.v_enum, EV.v_zip, EV.v_rng1, EV.v_C, s_asg', s_asgO', s_asg2', s_expr', s_ret', s_retN', s_if', s_raise', ss_nil', ss_cons', r_ok, r_exc, r_opt, t_nm, cr_ok, cr_exc, cr_okS, List.getD_cons_zero, List.getD_cons_succ, List.set_cons_zero, List.set_cons_succ, B.pre, B.ev, Cm.ev, U.ev, D.truth, D.toInt, D.items, if_true, if_false, Bool.not_true, Bool.not_false, reduceCtorEq, Option.map_some, Option.bind_some, List.length_cons, List.length_nil, Nat.zero_add, Nat.reduceAdd, Nat.reduceLT, Nat.reduceLeDiff, Bool.and_true, Bool.true_and, decide_true, eq_ii, i1]) rfl) ?_
    refine seq_nx [some box, some (.int 2), none, none, none] (if_no [some box, some (.int 2), none, none, none] (by simp only [EV.v_lit, EV.v_var, EV.v_glob, EV.v_fn, EV.v_un, EV.v_bin, EV.v_slL, EV.v_slH, EV.v_slLH, EV.v_tup, EV.v_lst, EV.v_and, EV.v_or, EV.v_not, EV.v_ite, EV.v_chain, EV.v_call, EV.v_callF, EV.v_callIo, EV.v_callT, EV.v_callv, EV.v_nil, EV.v_cons, EV.v_seq, EV.v_enum, EV.v_zip, EV.v_rng1, EV.v_C, s_asg', s_asgO', s_asg2', s_expr', s_ret', s_retN', s_if', s_raise', ss_nil', ss_cons', r_ok, r_exc, r_opt, t_nm, cr_ok, cr_exc, cr_okS, List.getD_cons_zero, List.getD_cons_succ, List.set_cons_zero, List.set_cons_succ, B.pre, B.ev, Cm.ev, U.ev, D.truth, D.toInt, D.items, if_true, if_false, Bool.not_true, Bool.not_false, reduceCtorEq, Option.map_some, Option.bind_some, List.length_cons, List.length_nil, Nat.zero_add, Nat.reduceAdd, Nat.reduceLT, Nat.reduceLeDiff, Bool.and_true, Bool.true_and, decide_true, eq_ii, i2]) rfl) ?_
    refine seq_nx [some b1, some (.int 2), some (.int (m : Nat)), none, none] (by simp only [EV.v_lit, EV.v_var, EV.v_glob, EV.v_fn, EV.v_un, EV.v_bin, EV.v_slL, EV.v_slH, EV.v_slLH, EV.v_tup, EV.v_lst, EV.v_and, EV.v_or, EV.v_not, EV.v_ite, EV.v_chain, EV.v_call, EV.v_callF, EV.v_callIo, EV.v_callT, EV.v_callv, EV.v_nil, EV.v_cons, EV.v_seq, EV.v_enum, EV.v_zip, EV.v_rng1, EV.v_C, s_asg', s_asgO', s_asg2', s_expr', s_ret', s_retN', s_if', s_raise', ss_nil', ss_cons', r_ok, r_exc, r_opt, t_nm, cr_ok, cr_exc, cr_okS, List.getD_cons_zero, List.getD_cons_succ, List.set_cons_zero, List.set_cons_succ, B.pre, B.ev, Cm.ev, U.ev, D.truth, D.toInt, D.items, if_true, if_false, Bool.not_true, Bool.not_false, reduceCtorEq, Option.map_some, Option.bind_some, List.length_cons, List.length_nil, Nat.zero_add, Nat.reduceAdd, Nat.reduceLT, Nat.reduceLeDiff, Bool.and_true, Bool.true_and, decide_true, ht1]) ?_
    refine seq_nx [some b1, some (.int 2), some (.int (m : Nat)), none, none] (if_no [some b1, some (.int 2), some (.int (m : Nat)), none, none] (by simp only [EV.v_lit, EV.v_var, EV.v_glob, EV.v_fn, EV.v_un, EV.v_bin, EV.v_slL, EV.v_slH, EV.v_slLH, EV.v_tup, EV.v_lst, EV.v_and, EV.v_or, EV.v_not, EV.v_ite, EV.v_chain, EV.v_call, EV.v_callF, EV.v_callIo, EV.v_callT, EV.v_callv, EV.v_nil, EV.v_cons, EV.v_seq, EV.v_enum, EV.v_zip, EV.v_rng1, EV.v_C, s_asg', s_asgO', s_asg2', s_expr', s_ret', s_retN', s_if', s_raise', ss_nil', ss_cons', r_ok, r_exc, r_opt, t_nm, cr_ok, cr_exc, cr_okS, List.getD_cons_zero, List.getD_cons_succ, List.set_cons_zero, List.set_cons_succ, B.pre, B.ev, Cm.ev, U.ev, D.truth, D.toInt, D.items, if_true, if_false, Bool.not_true, Bool.not_false, reduceCtorEq, Option.map_some, Option.bind_some, List.length_cons, List.length_nil, Nat.zero_add, Nat.reduceAdd, Nat.reduceLT, Nat.reduceLeDiff, Bool.and_true, Bool.true_and, decide_true, eq_ii, i0]) rfl) ?_
    exact seq_ret (if_yes [some b1, some (.int 2), some (.int (m : Nat)), none, none] (by simp only [EV.v_lit, EV.v_var, EV.v_glob, EV.v_fn, EV.v_un, EV.v_bin, EV.v_slL, EV.v_slH, EV.v_slLH, EV.v_tup, EV.v_lst, EV.v_and, EV.v_or, EV.v_not, EV.v_ite, EV.v_chain, EV.v_call, EV.v_callF, EV.v_callIo, EV.v_callT, EV.v_callv, EV.v_nil, EV.v_cons, EV.v_seq, EV.v_enum, EV.v_zip, EV.v_rng1, EV.v_C, s_asg', s_asgO', s_asg2', s_expr', s_ret', s_retN', s_if', s_raise', ss_nil', ss_cons', r_ok, r_exc, r_opt, t_nm, cr_ok, cr_exc, cr_okS, List.getD_cons_zero, List.getD_cons_succ, List.set_cons_zero, List.set_cons_succ, B.pre, B.ev, Cm.ev, U.ev, D.truth, D.toInt, D.items, if_true, if_false, Bool.not_true, Bool.not_false, reduceCtorEq, Option.map_some, Option.bind_some, List.length_cons, List.length_nil, Nat.zero_add, Nat.reduceAdd, Nat.reduceLT, Nat.reduceLeDiff, Bool.and_true, Bool.true_and, decide_true, eq_ii, i3]) (seq_ret hr))
theorem nums_ok : ∀ d ∈ [D.int 0, .int 7, .int 10, .int 999999, .int 1000000], ∃ t, U.str.ev d = some (.str t) ∧ TB 7 0 t := by
  intro d hd
  simp only [List.mem_cons, List.mem_nil_iff, or_false] at hd
  rcases hd with rfl | rfl | rfl | rfl | rfl
  · exact ⟨_, str_nat 0 (by decide), numL_tb 6 0 (by decide)⟩
  · exact ⟨_, str_nat 7 (by decide), numL_tb 6 7 (by decide)⟩
  · exact ⟨_, str_nat 10 (by decide), numL_tb 6 10 (by decide)⟩
  · exact ⟨_, str_nat 999999 (by decide), numL_tb 6 999999 (by decide)⟩
  · exact ⟨_, str_nat 1000000 (by decide), numL_tb 6 1000000 (by decide)⟩
theorem v_un' {c : Nat → List D → CR} {u : U} {a : E} {ρ ρ1 : EV.Env} {d e : D} (h : evE c a ρ = .ok d ρ1) (he : u.ev d = some e) : evE c (.un u a) ρ = .ok e ρ1 := by
  rw [EV.v_un, h, r_ok, he, r_opt]
theorem text3 (lv n : Nat) {box : D} (hB : BoxB (n + 80) box) : ∃ t box', C (lv + 12) 52 [box, .int 3] = .ok (.str t) box' ∧ BoxB n box' ∧ TB 160 8 t := by
  obtain ⟨m, b1, hm, hb1, ht1⟩ := many_ok lv (n + 79) hB
  have i1 : ((3 : Int) == 0) = false := rfl
  have i2 : ((3 : Int) == 1) = false := rfl
  have i3 : ((3 : Int) == 2) = false := rfl
  have i4 : ((3 : Int) == 3) = true := rfl
  by_cases c0 : m = 0
  · subst c0
    have i0 : (((0 : Nat) : Int) == 0) = true := rfl
    refine ⟨_, b1, text_run lv (ρ := [some b1, some (.int 3), some (.int ((0 : Nat) : Int)), none, none]) rfl ?_, hb1.mono (by omega), dash_tb⟩
    unfold d52
    simp only [EV.v_lit, EV.v_var, EV.v_glob, EV.v_fn, EV.v_un, EV.v_bin, EV.v_slL, EV.v_slH, EV.v_slLH, EV.v_tup, EV.v_lst, EV.v_and, EV.v_or, EV.v_not, EV.v_ite, EV.v_chain, EV.v_call, EV.v_callF, EV.v_callIo, EV.v_callT, EV.v_callv, EV.v_nil, EV.v_cons, EV.v_seq, EV.v_enum, EV.v_zip, EV.v_rng1, EV.v_C, s_asg', s_asgO', s_asg2', s_expr', s_ret', s_retN', s_if', s_raise', ss_nil', ss_cons', r_ok, r_exc, r_opt, t_nm, cr_ok, cr_exc, cr_okS, List.getD_cons_zero, List.getD_cons_succ, List.set_cons_zero, List.set_cons_succ, B.pre, B.ev, Cm.ev, U.ev, D.truth, D.toInt, D.items, if_true, if_false, Bool.not_true, Bool.not_false, reduceCtorEq, Option.map_some, Option.bind_some, List.length_cons, List.length_nil, Nat.zero_add, Nat.reduceAdd, Nat.reduceLT, Nat.reduceLeDiff, Bool.and_true, Bool.true_and, decide_true, eq_ii, i1, i2, ht1, i0]
  · have i0 : (((m : Nat) : Int) == 0) = false := by rw [beq_eq_false_iff_ne]; omega
    obtain ⟨ds, b4, k1, k2, k3, k4⟩ := comp_box (c := C (lv + 11)) (nm := "k") (j := 3) (it := .range1 (.var 2)) (elt := .un .str (.callIo 41 0 (.cons (.lst (.cons (.lit (.int 0)) (.cons (.lit (.int 7)) (.cons (.lit (.int 10)) (.cons (.lit (.int 999999)) (.cons (.lit (.int 1000000)) .nil)))))) .nil))) (rest := [some (.int 3), some (.int (m : Nat)), none, none]) (m := m) (Q := fun d => ∃ t, d = .str t ∧ TB 7 0 t) 1 n (box := b1) (range_ev (lv + 11) rfl (by omega)) (by simp) (by omega) (hb1.mono (by omega)) (fun x n' bx hbx => by
      obtain ⟨d, b', g1, g2, g3⟩ := of_ok (lv + 9) n' (ds := [.int 0, .int 7, .int 10, .int 999999, .int 1000000]) (by simp) (by simp) hbx
      obtain ⟨t, ht, htb⟩ := nums_ok d g1
      refine ⟨.str t, b', ?_, g2, t, rfl, htb⟩
      show evE _ _ [some bx, some (.int 3), some (.int (m : Nat)), none, some x] = R.ok _ [some b', some (.int 3), some (.int (m : Nat)), none, some x]
      refine v_un' (d := d) ?_ ht
      have g3 : C (lv + 11) 41 [bx, .lst [.int 0, .int 7, .int 10, .int 999999, .int 1000000]] = .ok d b' := g3
      simp only [EV.v_lit, EV.v_var, EV.v_glob, EV.v_fn, EV.v_un, EV.v_bin, EV.v_slL, EV.v_slH, EV.v_slLH, EV.v_tup, EV.v_lst, EV.v_and, EV.v_or, EV.v_not, EV.v_ite, EV.v_chain, EV.v_call, EV.v_callF, EV.v_callIo, EV.v_callT, EV.v_callv, EV.v_nil, EV.v_cons, EV.v_seq, EV.v_enum, EV.v_zip, EV.v_rng1, EV.v_C, s_asg', s_asgO', s_asg2', s_expr', s_ret', s_retN', s_if', s_raise', ss_nil', ss_cons', r_ok, r_exc, r_opt, t_nm, cr_ok, cr_exc, cr_okS, List.getD_cons_zero, List.getD_cons_succ, List.set_cons_zero, List.set_cons_succ, B.pre, B.ev, Cm.ev, U.ev, D.truth, D.toInt, D.items, if_true, if_false, Bool.not_true, Bool.not_false, reduceCtorEq, Option.map_some, Option.bind_some, List.length_cons, List.length_nil, Nat.zero_add, Nat.reduceAdd, Nat.reduceLT, Nat.reduceLeDiff, Bool.and_true, Bool.true_and, decide_true, g3])
    obtain ⟨ts, rfl, k5, k6⟩ := strs_of k4
    have hlen : ts.length = m := by simpa using k3
    have hj := join_go (S := [32]) k1 k5 (join_small (by decide) (by decide) k6 (by omega))
    have tj := TB.join (l := 1) (b := 1) (S := [32]) ⟨by decide, by decide, by decide⟩ k6
    rw [hlen] at tj
    refine ⟨_, b4, text_run lv (ρ := [some b4, some (.int 3), some (.int (m : Nat)), none, none]) rfl ?_, k2, tj.mono (by omega) (by omega)⟩
    have hr : evS (C (lv + 11)) wf0 (.ret (.bin .join (.lit (.str [32])) (.comp [("k", 4)] (.nm 4) (.range1 (.var 2)) (.un .str (.callIo 41 0 (.cons (.lst (.cons (.lit (.int 0)) (.cons (.lit (.int 7)) (.cons (.lit (.int 10)) (.cons (.lit (.int 999999)) (.cons (.lit (.int 1000000)) .nil)))))) .nil)))))) [some b1, some (.int 3), some (.int (m : Nat)), none, none] = .ok (.ret (.str (TL.joinL [32] ts))) [some b4, some (.int 3), some (.int (m : Nat)), none, none] := by
      rw [s_ret', show evE _ _ _ = _ from hj, r_ok]
    unfold d52
    refine seq_nx [some box, some (.int 3), none, none, none] (if_no [some box, some (.int 3), none, none, none] (by simp only [EV.v_lit, EV.v_var, EV.v_glob, EV.v_fn, EV.v_un, EV.v_bin, EV.v_slL, EV.v_slH, EV.v_slLH, EV.v_tup, EV.v_lst, EV.v_and, EV.v_or, EV.v_not, EV.v_ite, EV.v_chain, EV.v_call, EV.v_callF, EV.v_callIo, EV.v_callT, EV.v_callv, EV.v_nil, EV.v_cons, EV.v_seq, EV.v_enum, EV.v_zip, EV.v_rng1, EV.v_C, s_asg', s_asgO', s_asg2', s_expr', s_ret', s_retN', s_if', s_raise', ss_nil', ss_cons', r_ok, r_exc, r_opt, t_nm, cr_ok, cr_exc, cr_okS, List.getD_cons_zero, List.getD_cons_succ, List.set_cons_zero, List.set_cons_succ, B.pre, B.ev, Cm.ev, U.ev, D.truth, D.toInt, D.items, if_true, if_false, Bool.not_true, Bool.not_false, reduceCtorEq, Option.map_some, Option.bind_some, List.length_cons, List.length_nil, Nat.zero_add, Nat.reduceAdd, Nat.reduceLT, Nat.reduceLeDiff, Bool.and_true, Bool.true_and, decide_true, eq_ii, i1]) rfl) ?_
    refine seq_nx [some box, some (.int 3), none, none, none] (if_no [some box, some (.int 3), none, none, none] (by simp only [EV.v_lit, EV.v_var, EV.v_glob, EV.v_fn, EV.v_un, EV.v_bin, EV.v_slL, EV.v_slH, EV.v_slLH, EV.v_tup, EV.v_lst, EV.v_and, EV.v_or, EV.v_not, EV.v_ite, EV.v_chain, EV.v_call, EV.v_callF, EV.v_callIo, EV.v_callT, EV.v_callv, EV.v_nil, EV.v_cons, EV.v_seq, EV.v_enum, EV.v_zip, EV.v_rng1, EV.v_C, s_asg', s_asgO', s_asg2', s_expr', s_ret', s_retN', s_if', s_raise', ss_nil', ss_cons', r_ok, r_exc, r_opt, t_nm, cr_ok, cr_exc, cr_okS, List.getD_cons_zero, List.getD_cons_succ, List.set_cons_zero, List.set_cons_succ, B.pre, B.ev, Cm.ev, U.ev, D.truth, D.toInt, D.items, if_true, if_false, Bool.not_true, Bool.not_false, reduceCtorEq, Option.map_some, Option.bind_some, List.length_cons, List.length_nil, Nat.zero_add, Nat.reduceAdd, Nat.reduceLT, Nat.reduceLeDiff, Bool.and_true, Bool.true_and, decide_true, eq_ii, i2]) rfl) ?_
    refine seq_nx [some b1, some (.int 3), some (.int (m : Nat)), none, none] (by simp only [EV.v_lit, EV.v_var, EV.v_glob, EV.v_fn, EV.v_un, EV.v_bin, EV.v_slL, EV.v_slH, EV.v_slLH, EV.v_tup, EV.v_lst, EV.v_and, EV.v_or, EV.v_not, EV.v_ite, EV.v_chain, EV.v_call, EV.v_callF, EV.v_callIo, EV.v_callT, EV.v_callv, EV.v_nil, EV.v_cons, EV.v_seq, EV.v_enum, EV.v_zip, EV.v_rng1, EV.v_C, s_asg', s_asgO', s_asg2', s_expr', s_ret', s_retN', s_if', s_raise', ss_nil', ss_cons', r_ok, r_exc, r_opt, t_nm, cr_ok, cr_exc, cr_okS, List.getD_cons_zero, List.getD_cons_succ, List.set_cons_zero, List.set_cons_succ, B.pre, B.ev, Cm.ev, U.ev, D.truth, D.toInt, D.items, if_true, if_false, Bool.not_true, Bool.not_false, reduceCtorEq, Option.map_some, Option.bind_some, List.length_cons, List.length_nil, Nat.zero_add, Nat.reduceAdd, Nat.reduceLT, Nat.reduceLeDiff, Bool.and_true, Bool.true_and, decide_true, ht1]) ?_
    refine seq_nx [some b1, some (.int 3), some (.int (m : Nat)), none, none] (if_no [some b1, some (.int 3), some (.int (m : Nat)), none, none] (by simp only [EV.v_lit, EV.v_var, EV.v_glob, EV.v_fn, EV.v_un, EV.v_bin, EV.v_slL, EV.v_slH, EV.v_slLH, EV.v_tup, EV.v_lst, EV.v_and, EV.v_or, EV.v_not, EV.v_ite, EV.v_chain, EV.v_call, EV.v_callF, EV.v_callIo, EV.v_callT, EV.v_callv, EV.v_nil, EV.v_cons, EV.v_seq, EV.v_enum, EV.v_zip, EV.v_rng1, EV.v_C, s_asg', s_asgO', s_asg2', s_expr', s_ret', s_retN', s_if', s_raise', ss_nil', ss_cons', r_ok, r_exc, r_opt, t_nm, cr_ok, cr_exc, cr_okS, List.getD_cons_zero, List.getD_cons_succ, List.set_cons_zero, List.set_cons_succ, B.pre, B.ev, Cm.ev, U.ev, D.truth, D.toInt, D.items, if_true, if_false, Bool.not_true, Bool.not_false, reduceCtorEq, Option.map_some, Option.bind_some, List.length_cons, List.length_nil, Nat.zero_add, Nat.reduceAdd, Nat.reduceLT, Nat.reduceLeDiff, Bool.and_true, Bool.true_and, decide_true, eq_ii, i0]) rfl) ?_
    refine seq_nx [some b1, some (.int 3), some (.int (m : Nat)), none, none] (if_no [some b1, some (.int 3), some (.int (m : Nat)), none, none] (by simp only [EV.v_lit, EV.v_var, EV.v_glob, EV.v_fn, EV.v_un, EV.v_bin, EV.v_slL, EV.v_slH, EV.v_slLH, EV.v_tup, EV.v_lst, EV.v_and, EV.v_or, EV.v_not, EV.v_ite, EV.v_chain, EV.v_call, EV.v_callF, EV.v_callIo, EV.v_callT, EV.v_callv, EV.v_nil, EV.v_cons, EV.v_seq, EV.v_enum, EV.v_zip, EV.v_rng1, EV.v_C, s_asg', s_asgO', s_asg2', s_expr', s_ret', s_retN', s_if', s_raise', ss_nil', ss_cons', r_ok, r_exc, r_opt, t_nm, cr_ok, cr_exc, cr_okS, List.getD_cons_zero, List.getD_cons_succ, List.set_cons_zero, List.set_cons_succ, B.pre, B.ev, Cm.ev, U.ev, D.truth, D.toInt, D.items, if_true, if_false, Bool.not_true, Bool.not_false, reduceCtorEq, Option.map_some, Option.bind_some, List.length_cons, List.length_nil, Nat.zero_add, Nat.reduceAdd, Nat.reduceLT, Nat.reduceLeDiff, Bool.and_true, Bool.true_and, decide_true, eq_ii, i3]) rfl) ?_
    exact seq_ret (if_yes [some b1, some (.int 3), some (.int (m : Nat)), none, none] (by simp only [EV.v_lit, EV.v_var, EV.v_glob, EV.v_fn, EV.v_un, EV.v_bin, EV.v_slL, EV.v_slH, EV.v_slLH, EV.v_tup, EV.v_lst, EV.v_and, EV.v_or, EV.v_not, EV.v_ite, EV.v_chain, EV.v_call, EV.v_callF, EV.v_callIo, EV.v_callT, EV.v_callv, EV.v_nil, EV.v_cons, EV.v_seq, EV.v_enum, EV.v_zip, EV.v_rng1, EV.v_C, s_asg', s_asgO', s_asg2', s_expr', s_ret', s_retN', s_if', s_raise', ss_nil', ss_cons', r_ok, r_exc, r_opt, t_nm, cr_ok, cr_exc, cr_okS, List.getD_cons_zero, List.getD_cons_succ, List.set_cons_zero, List.set_cons_succ, B.pre, B.ev, Cm.ev, U.ev, D.truth, D.toInt, D.items, if_true, if_false, Bool.not_true, Bool.not_false, reduceCtorEq, Option.map_some, Option.bind_some, List.length_cons, List.length_nil, Nat.zero_add, Nat.reduceAdd, Nat.reduceLT, Nat.reduceLeDiff, Bool.and_true, Bool.true_and, decide_true, eq_ii, i4]) (seq_ret hr))
def plD : List D := [.str [45], .str [48], .str [49, 46, 48], .str [50, 46, 48, 46, 49, 49], .str [57, 57, 57, 57, 57, 57], .str [48, 46, 48, 48]]
theorem text4 (lv n : Nat) {box : D} (hB : BoxB (n + 80) box) : ∃ t box', C (lv + 12) 52 [box, .int 4] = .ok (.str t) box' ∧ BoxB n box' ∧ TB 160 8 t := by
  obtain ⟨m, b1, hm, hb1, ht1⟩ := many_ok lv (n + 79) hB
  have i1 : ((4 : Int) == 0) = false := rfl
  have i2 : ((4 : Int) == 1) = false := rfl
  have i3 : ((4 : Int) == 2) = false := rfl
  have i4 : ((4 : Int) == 3) = false := rfl
  by_cases c0 : m = 0
  · subst c0
    have i0 : (((0 : Nat) : Int) == 0) = true := rfl
    refine ⟨_, b1, text_run lv (ρ := [some b1, some (.int 4), some (.int ((0 : Nat) : Int)), none, none]) rfl ?_, hb1.mono (by omega), dash_tb⟩
    unfold d52
    simp only [EV.v_lit, EV.v_var, EV.v_glob, EV.v_fn, EV.v_un, EV.v_bin, EV.v_slL, EV.v_slH, EV.v_slLH, EV.v_tup, EV.v_lst, EV.v_and, EV.v_or, EV.v_not, EV.v_ite, EV.v_chain, EV.v_call, EV.v_callF, EV.v_callIo, EV.v_callT, EV.v_callv, EV.v_nil, EV.v_cons, EV.v_seq, EV.v_enum, EV.v_zip, EV.v_rng1, EV.v_C, s_asg', s_asgO', s_asg2', s_expr', s_ret', s_retN', s_if', s_raise', ss_nil', ss_cons', r_ok, r_exc, r_opt, t_nm, cr_ok, cr_exc, cr_okS, List.getD_cons_zero, List.getD_cons_succ, List.set_cons_zero, List.set_cons_succ, B.pre, B.ev, Cm.ev, U.ev, D.truth, D.toInt, D.items, if_true, if_false, Bool.not_true, Bool.not_false, reduceCtorEq, Option.map_some, Option.bind_some, List.length_cons, List.length_nil, Nat.zero_add, Nat.reduceAdd, Nat.reduceLT, Nat.reduceLeDiff, Bool.and_true, Bool.true_and, decide_true, eq_ii, i1, i2, ht1, i0]
  · have i0 : (((m : Nat) : Int) == 0) = false := by rw [beq_eq_false_iff_ne]; omega
    obtain ⟨ds, b4, k1, k2, k3, k4⟩ := comp_box (c := C (lv + 11)) (nm := "k") (j := 3) (it := .range1 (.var 2)) (elt := .bin .add (.bin .add (.callIo 41 0 (.cons (.var 3) .nil)) (.lit (.str [58]))) (.un .str (.callIo 38 0 (.cons (.lit (.int 12)) .nil)))) (rest := [some (.int 4), some (.int (m : Nat)), some (.lst plD), none]) (m := m) (Q := fun d => ∃ t, d = .str t ∧ TB 9 0 t) 2 n (box := b1) (range_ev (lv + 11) rfl (by omega)) (by simp) (by omega) (hb1.mono (by omega)) (fun x n' bx hbx => by
      obtain ⟨d, b2, g1, g2, g3⟩ := of_ok (lv + 9) (n' + 1) (ds := plD) (by simp [plD]) (by simp [plD]) hbx
      obtain ⟨r, b', r0, r1, hb, ht⟩ := take_ok (lv + 10) n' (z := 12) (by decide) (by decide) g2
      obtain ⟨k, rfl⟩ : ∃ k : Nat, r = (k : Nat) := ⟨r.toNat, by omega⟩
      obtain ⟨p, rfl, hp⟩ : ∃ p, d = .str p ∧ TB 6 0 p := by
        simp only [plD, List.mem_cons, List.mem_nil_iff, or_false] at g1
        rcases g1 with rfl | rfl | rfl | rfl | rfl | rfl <;> exact ⟨_, rfl, tb_lit (by decide)⟩
      have g3 : C (lv + 11) 41 [bx, .lst plD] = .ok (.str p) b2 := g3
      have ht : C (lv + 11) 38 [b2, .int 12] = .ok (.int (k : Nat)) b' := ht
      have hs := str_nat k (by omega)
      have hn := numL_tb 1 k (by omega)
      have L1 := hp.len
      have L2 := hn.len
      have j1 : p.length + 1 ≤ sizeLine := len_le (by omega)
      have j2 : (p ++ [58]).length + (TL.numL k).length ≤ sizeLine := len_le (by simp only [List.length_append, List.length_cons, List.length_nil]; omega)
      refine ⟨.str (p ++ [58] ++ TL.numL k), b', ?_, hb, _, rfl, ?_⟩
      · show evE _ _ [some bx, some (.int 4), some (.int (m : Nat)), some (.lst plD), some x] = R.ok _ [some b', some (.int 4), some (.int (m : Nat)), some (.lst plD), some x]
        have hu : evE (C (lv + 11)) (.un .str (.callIo 38 0 (.cons (.lit (.int 12)) .nil))) [some b2, some (.int 4), some (.int (m : Nat)), some (.lst plD), some x] = .ok (.str (TL.numL k)) [some b', some (.int 4), some (.int (m : Nat)), some (.lst plD), some x] := by
          refine v_un' (d := .int (k : Nat)) ?_ hs
          simp only [EV.v_lit, EV.v_var, EV.v_glob, EV.v_fn, EV.v_un, EV.v_bin, EV.v_slL, EV.v_slH, EV.v_slLH, EV.v_tup, EV.v_lst, EV.v_and, EV.v_or, EV.v_not, EV.v_ite, EV.v_chain, EV.v_call, EV.v_callF, EV.v_callIo, EV.v_callT, EV.v_callv, EV.v_nil, EV.v_cons, EV.v_seq, EV.v_enum, EV.v_zip, EV.v_rng1, EV.v_C, s_asg', s_asgO', s_asg2', s_expr', s_ret', s_retN', s_if', s_raise', ss_nil', ss_cons', r_ok, r_exc, r_opt, t_nm, cr_ok, cr_exc, cr_okS, List.getD_cons_zero, List.getD_cons_succ, List.set_cons_zero, List.set_cons_succ, B.pre, B.ev, Cm.ev, U.ev, D.truth, D.toInt, D.items, if_true, if_false, Bool.not_true, Bool.not_false, reduceCtorEq, Option.map_some, Option.bind_some, List.length_cons, List.length_nil, Nat.zero_add, Nat.reduceAdd, Nat.reduceLT, Nat.reduceLeDiff, Bool.and_true, Bool.true_and, decide_true, ht]
        rw [EV.v_bin]
        have h1 : evE (C (lv + 11)) (.bin .add (.callIo 41 0 (.cons (.var 3) .nil)) (.lit (.str [58]))) [some bx, some (.int 4), some (.int (m : Nat)), some (.lst plD), some x] = .ok (.str (p ++ [58])) [some b2, some (.int 4), some (.int (m : Nat)), some (.lst plD), some x] := by
          simp only [EV.v_lit, EV.v_var, EV.v_glob, EV.v_fn, EV.v_un, EV.v_bin, EV.v_slL, EV.v_slH, EV.v_slLH, EV.v_tup, EV.v_lst, EV.v_and, EV.v_or, EV.v_not, EV.v_ite, EV.v_chain, EV.v_call, EV.v_callF, EV.v_callIo, EV.v_callT, EV.v_callv, EV.v_nil, EV.v_cons, EV.v_seq, EV.v_enum, EV.v_zip, EV.v_rng1, EV.v_C, s_asg', s_asgO', s_asg2', s_expr', s_ret', s_retN', s_if', s_raise', ss_nil', ss_cons', r_ok, r_exc, r_opt, t_nm, cr_ok, cr_exc, cr_okS, List.getD_cons_zero, List.getD_cons_succ, List.set_cons_zero, List.set_cons_succ, B.pre, B.ev, Cm.ev, U.ev, D.truth, D.toInt, D.items, if_true, if_false, Bool.not_true, Bool.not_false, reduceCtorEq, Option.map_some, Option.bind_some, List.length_cons, List.length_nil, Nat.zero_add, Nat.reduceAdd, Nat.reduceLT, Nat.reduceLeDiff, Bool.and_true, Bool.true_and, decide_true, g3, if_pos j1]
        rw [h1, r_ok, if_pos (show B.pre .add (.str (p ++ [58])) = true from rfl), hu, r_ok]
        show R.opt _ (if (p ++ [58]).length + (TL.numL k).length ≤ sizeLine then _ else _) = _
        rw [if_pos j2]
        rfl
      · exact ((hp.app (tb_lit (L := 1) (t := [58]) (by decide))).app hn).mono (by decide) (by decide))
    obtain ⟨ts, rfl, k5, k6⟩ := strs_of k4
    have hlen : ts.length = m := by simpa using k3
    have hj := join_go (S := [32]) k1 k5 (join_small (by decide) (by decide) k6 (by omega))
    have tj := TB.join (l := 1) (b := 1) (S := [32]) ⟨by decide, by decide, by decide⟩ k6
    rw [hlen] at tj
    refine ⟨_, b4, text_run lv (ρ := [some b4, some (.int 4), some (.int (m : Nat)), some (.lst plD), none]) rfl ?_, k2, tj.mono (by omega) (by omega)⟩
    have hr : evS (C (lv + 11)) wf0 (.ret (.bin .join (.lit (.str [32])) (.comp [("k", 4)] (.nm 4) (.range1 (.var 2)) (.bin .add (.bin .add (.callIo 41 0 (.cons (.var 3) .nil)) (.lit (.str [58]))) (.un .str (.callIo 38 0 (.cons (.lit (.int 12)) .nil))))))) [some b1, some (.int 4), some (.int (m : Nat)), some (.lst plD), none] = .ok (.ret (.str (TL.joinL [32] ts))) [some b4, some (.int 4), some (.int (m : Nat)), some (.lst plD), none] := by
      rw [s_ret', show evE _ _ _ = _ from hj, r_ok]
    unfold d52
    refine seq_nx [some box, some (.int 4), none, none, none] (if_no [some box, some (.int 4), none, none, none] (by simp only [EV.v_lit, EV.v_var, EV.v_glob, EV.v_fn, EV.v_un, EV.v_bin, EV.v_slL, EV.v_slH, EV.v_slLH, EV.v_tup, EV.v_lst, EV.v_and, EV.v_or, EV.v_not, EV.v_ite, EV.v_chain, EV.v_call, EV.v_callF, EV.v_callIo, EV.v_callT, EV.v_callv, EV.v_nil, EV.v_cons, EV.v_seq, EV.v_enum, EV.v_zip, EV.v_rng1, EV.v_C, s_asg', s_asgO', s_asg2', s_expr', s_ret', s_retN', s_if', s_raise', ss_nil', ss_cons', r_ok, r_exc, r_opt, t_nm, cr_ok, cr_exc, cr_okS, List.getD_cons_zero, List.getD_cons_succ, List.set_cons_zero, List.set_cons_succ, B.pre, B.ev, Cm.ev, U.ev, D.truth, D.toInt, D.items, if_true, if_false, Bool.not_true, Bool.not_false, reduceCtorEq, Option.map_some, Option.bind_some, List.length_cons, List.length_nil, Nat.zero_add, Nat.reduceAdd, Nat.reduceLT, Nat.reduceLeDiff, Bool.and_true, Bool.true_and, decide_true, eq_ii, i1]) rfl) ?_
    refine seq_nx [some box, some (.int 4), none, none, none] (if_no [some box, some (.int 4), none, none, none] (by simp only [EV.v_lit, EV.v_var, EV.v_glob, EV.v_fn, EV.v_un, EV.v_bin, EV.v_slL, EV.v_slH, EV.v_slLH, EV.v_tup, EV.v_lst, EV.v_and, EV.v_or, EV.v_not, EV.v_ite, EV.v_chain, EV.v_call, EV.v_callF, EV.v_callIo, EV.v_callT, EV.v_callv, EV.v_nil, EV.v_cons, EV.v_seq, EV.v_enum, EV.v_zip, EV.v_rng1, EV.v_C, s_asg', s_asgO', s_asg2', s_expr', s_ret', s_retN', s_if', s_raise', ss_nil', ss_cons', r_ok, r_exc, r_opt, t_nm, cr_ok, cr_exc, cr_okS, List.getD_cons_zero, List.getD_cons_succ, List.set_cons_zero, List.set_cons_succ, B.pre, B.ev, Cm.ev, U.ev, D.truth, D.toInt, D.items, if_true, if_false, Bool.not_true, Bool.not_false, reduceCtorEq, Option.map_some, Option.bind_some, List.length_cons, List.length_nil, Nat.zero_add, Nat.reduceAdd, Nat.reduceLT, Nat.reduceLeDiff, Bool.and_true, Bool.true_and, decide_true, eq_ii, i2]) rfl) ?_
    refine seq_nx [some b1, some (.int 4), some (.int (m : Nat)), none, none] (by simp only [EV.v_lit, EV.v_var, EV.v_glob, EV.v_fn, EV.v_un, EV.v_bin, EV.v_slL, EV.v_slH, EV.v_slLH, EV.v_tup, EV.v_lst, EV.v_and, EV.v_or, EV.v_not, EV.v_ite, EV.v_chain, EV.v_call, EV.v_callF, EV.v_callIo, EV.v_callT, EV.v_callv, EV.v_nil, EV.v_cons, EV.v_seq, EV.v_enum, EV.v_zip, EV.v_rng1, EV.v_C, s_asg', s_asgO', s_asg2', s_expr', s_ret', s_retN', s_if', s_raise', ss_nil', ss_cons', r_ok, r_exc, r_opt, t_nm, cr_ok, cr_exc, cr_okS, List.getD_cons_zero, List.getD_cons_succ, List.set_cons_zero, List.set_cons_succ, B.pre, B.ev, Cm.ev, U.ev, D.truth, D.toInt, D.items, if_true, if_false, Bool.not_true, Bool.not_false, reduceCtorEq, Option.map_some, Option.bind_some, List.length_cons, List.length_nil, Nat.zero_add, Nat.reduceAdd, Nat.reduceLT, Nat.reduceLeDiff, Bool.and_true, Bool.true_and, decide_true, ht1]) ?_
    refine seq_nx [some b1, some (.int 4), some (.int (m : Nat)), none, none] (if_no [some b1, some (.int 4), some (.int (m : Nat)), none, none] (by simp only [EV.v_lit, EV.v_var, EV.v_glob, EV.v_fn, EV.v_un, EV.v_bin, EV.v_slL, EV.v_slH, EV.v_slLH, EV.v_tup, EV.v_lst, EV.v_and, EV.v_or, EV.v_not, EV.v_ite, EV.v_chain, EV.v_call, EV.v_callF, EV.v_callIo, EV.v_callT, EV.v_callv, EV.v_nil, EV.v_cons, EV.v_seq, EV.v_enum, EV.v_zip, EV.v_rng1, EV.v_C, s_asg', s_asgO', s_asg2', s_expr', s_ret', s_retN', s_if', s_raise', ss_nil', ss_cons', r_ok, r_exc, r_opt, t_nm, cr_ok, cr_exc, cr_okS, List.getD_cons_zero, List.getD_cons_succ, List.set_cons_zero, List.set_cons_succ, B.pre, B.ev, Cm.ev, U.ev, D.truth, D.toInt, D.items, if_true, if_false, Bool.not_true, Bool.not_false, reduceCtorEq, Option.map_some, Option.bind_some, List.length_cons, List.length_nil, Nat.zero_add, Nat.reduceAdd, Nat.reduceLT, Nat.reduceLeDiff, Bool.and_true, Bool.true_and, decide_true, eq_ii, i0]) rfl) ?_
    refine seq_nx [some b1, some (.int 4), some (.int (m : Nat)), none, none] (if_no [some b1, some (.int 4), some (.int (m : Nat)), none, none] (by simp only [EV.v_lit, EV.v_var, EV.v_glob, EV.v_fn, EV.v_un, EV.v_bin, EV.v_slL, EV.v_slH, EV.v_slLH, EV.v_tup, EV.v_lst, EV.v_and, EV.v_or, EV.v_not, EV.v_ite, EV.v_chain, EV.v_call, EV.v_callF, EV.v_callIo, EV.v_callT, EV.v_callv, EV.v_nil, EV.v_cons, EV.v_seq, EV.v_enum, EV.v_zip, EV.v_rng1, EV.v_C, s_asg', s_asgO', s_asg2', s_expr', s_ret', s_retN', s_if', s_raise', ss_nil', ss_cons', r_ok, r_exc, r_opt, t_nm, cr_ok, cr_exc, cr_okS, List.getD_cons_zero, List.getD_cons_succ, List.set_cons_zero, List.set_cons_succ, B.pre, B.ev, Cm.ev, U.ev, D.truth, D.toInt, D.items, if_true, if_false, Bool.not_true, Bool.not_false, reduceCtorEq, Option.map_some, Option.bind_some, List.length_cons, List.length_nil, Nat.zero_add, Nat.reduceAdd, Nat.reduceLT, Nat.reduceLeDiff, Bool.and_true, Bool.true_and, decide_true, eq_ii, i3]) rfl) ?_
    refine seq_nx [some b1, some (.int 4), some (.int (m : Nat)), none, none] (if_no [some b1, some (.int 4), some (.int (m : Nat)), none, none] (by simp only [EV.v_lit, EV.v_var, EV.v_glob, EV.v_fn, EV.v_un, EV.v_bin, EV.v_slL, EV.v_slH, EV.v_slLH, EV.v_tup, EV.v_lst, EV.v_and, EV.v_or, EV.v_not, EV.v_ite, EV.v_chain, EV.v_call, EV.v_callF, EV.v_callIo, EV.v_callT, EV.v_callv, EV.v_nil, EV.v_cons, EV.v_seq, EV.v_enum, EV.v_zip, EV.v_rng1, EV.v_C, s_asg', s_asgO', s_asg2', s_expr', s_ret', s_retN', s_if', s_raise', ss_nil', ss_cons', r_ok, r_exc, r_opt, t_nm, cr_ok, cr_exc, cr_okS, List.getD_cons_zero, List.getD_cons_succ, List.set_cons_zero, List.set_cons_succ, B.pre, B.ev, Cm.ev, U.ev, D.truth, D.toInt, D.items, if_true, if_false, Bool.not_true, Bool.not_false, reduceCtorEq, Option.map_some, Option.bind_some, List.length_cons, List.length_nil, Nat.zero_add, Nat.reduceAdd, Nat.reduceLT, Nat.reduceLeDiff, Bool.and_true, Bool.true_and, decide_true, eq_ii, i4]) rfl) ?_
    refine seq_nx [some b1, some (.int 4), some (.int (m : Nat)), some (.lst plD), none] (by unfold plD; simp only [EV.v_lit, EV.v_var, EV.v_glob, EV.v_fn, EV.v_un, EV.v_bin, EV.v_slL, EV.v_slH, EV.v_slLH, EV.v_tup, EV.v_lst, EV.v_and, EV.v_or, EV.v_not, EV.v_ite, EV.v_chain, EV.v_call, EV.v_callF, EV.v_callIo, EV.v_callT, EV.v_callv, EV.v_nil, EV.v_cons, EV.v_seq, EV.v_enum, EV.v_zip, EV.v_rng1, EV.v_C, s_asg', s_asgO', s_asg2', s_expr', s_ret', s_retN', s_if', s_raise', ss_nil', ss_cons', r_ok, r_exc, r_opt, t_nm, cr_ok, cr_exc, cr_okS, List.getD_cons_zero, List.getD_cons_succ, List.set_cons_zero, List.set_cons_succ, B.pre, B.ev, Cm.ev, U.ev, D.truth, D.toInt, D.items, if_true, if_false, Bool.not_true, Bool.not_false, reduceCtorEq, Option.map_some, Option.bind_some, List.length_cons, List.length_nil, Nat.zero_add, Nat.reduceAdd, Nat.reduceLT, Nat.reduceLeDiff, Bool.and_true, Bool.true_and, decide_true]) ?_
    exact seq_ret hr
theorem text_ok (lv n : Nat) {box : D} (hB : BoxB (n + 80) box) : ∀ door, door < 5 → ∃ t box', C (lv + 12) 52 [box, .int (door : Nat)] = .ok (.str t) box' ∧ BoxB n box' ∧ TB 160 8 t
  | 0, _ => text0 lv n hB
  | 1, _ => text1 lv n hB
  | 2, _ => text2 lv n hB
  | 3, _ => text3 lv n hB
  | 4, _ => text4 lv n hB
end K49
end
section
set_option autoImplicit false
/-! Q49h: edits, turns. -/
namespace K49
open PySem EV
def eS0 : S := (.asg2 false false 9 10 (.callIo 38 0 (.cons (.bin .add (.un .len (.var 3)) (.lit (.int 1))) .nil)) (.callIo 38 0 (.cons (.lit (.int 3)) .nil)))
def eS1 : S := (.asg (.nm 7) (.callIo 41 0 (.cons (.lst (.cons (.lit (.str [97])) (.cons (.lit (.str [40])) (.cons (.lit (.str [41])) (.cons (.lit (.str [44])) (.cons (.lit (.str [32])) (.cons (.lit (.str [59])) (.cons (.lit (.str [45])) (.cons (.lit (.str [48])) (.cons (.lit (.str [49])) (.cons (.lit (.str [46])) (.cons (.lit (.str [58])) (.cons (.lit (.str [116])) (.cons (.lit (.str [65])) (.cons (.lit (.str [95])) .nil))))))))))))))) .nil)))
def eS2 : S := (.asg (.nm 3) (.bin .add (.bin .add (.slH (.var 3) (.var 9)) (.ite (.bin (.cmp .lt) (.var 10) (.lit (.int 2))) (.var 7) (.lit (.str [])))) (.slL (.var 3) (.bin .add (.var 9) (.ite (.bin (.cmp .eq) (.var 10) (.lit (.int 0))) (.lit (.int 0)) (.lit (.int 1)))))))
def eBody : Ss := .cons eS0 (.cons eS1 (.cons eS2 .nil))
def tS0 : S := (.asg (.nm 2) (.callIo 38 0 (.cons (.lit (.int 5)) .nil)))
def tS1 : S := (.asg (.nm 3) (.callIo 52 0 (.cons (.var 2) .nil)))
def tS2 : S := (.for_ (.nm 4) (.range1 (.callIo 38 0 (.cons (.lit (.int 4)) .nil))) eBody)
def tS3 : S := (.asg (.nm 5) (.call false false 50 (.cons (.var 2) (.cons (.var 3) .nil))))
def tS4 : S := (.asg (.nm 6) (.call false false 42 (.cons (.var 2) (.cons (.var 3) .nil))))
def tS5 : S := (.if_ (.not_ (.call false false 40 (.cons (.var 6) (.cons (.ite (.un .isNone (.var 5)) (.tup (.cons (.lit (.str [66, 97, 100, 84, 101, 120, 116])) (.cons (.var 3) .nil))) (.tup (.cons (.bin .idx (.var 5) (.lit (.int 0))) .nil))) .nil)))) (.cons (.ret (.lit (.bl false))) .nil) .nil)
def tS6 : S := (.if_ (.and_ (.un .notNone (.var 5)) (.call false false 55 (.cons (.var 2) (.cons (.bin .idx (.var 5) (.lit (.int 0))) .nil)))) (.cons (.asg (.nm 8) (.lst (.cons (.fn 11) (.cons (.fn 13) (.cons (.fn 15) (.cons (.fn 17) (.cons (.fn 20) .nil))))))) (.cons (.if_ (.bin (.cmp .ne) (.callv (.bin .idx (.var 8) (.var 2)) (.cons (.bin .idx (.var 5) (.lit (.int 0))) .nil)) (.var 3)) (.cons (.ret (.lit (.bl false))) .nil) .nil) .nil)) .nil)
def rTurn : Ss := .cons tS0 (.cons tS1 (.cons tS2 (.cons tS3 (.cons tS4 (.cons tS5 (.cons tS6 (.nil)))))))
def sgl : List D := [.str [97], .str [40], .str [41], .str [44], .str [32], .str [59], .str [45], .str [48], .str [49], .str [46], .str [58], .str [116], .str [65], .str [95]]
theorem slice_hi {t : List Nat} (hz : t.length ≤ sizeLine) {k : Nat} (hk : k ≤ t.length) : D.slice (.str t) none (some (k : Nat)) = some (.str (t.take k)) := by
  show (if t.length ≤ sizeLine then some (D.str (cut t none (some (k : Nat)))) else none) = _
  rw [if_pos hz]
  unfold cut
  rw [HT.sIx_nat, Nat.min_eq_left hk]
  have : HT.sIx t.length 0 none = 0 := rfl
  rw [this, List.drop_zero, Nat.sub_zero]
theorem slice_lo {t : List Nat} (hz : t.length ≤ sizeLine) (k : Nat) : D.slice (.str t) (some (k : Nat)) none = some (.str (t.drop k)) := by
  show (if t.length ≤ sizeLine then some (D.str (cut t (some (k : Nat)) none)) else none) = _
  rw [if_pos hz]
  unfold cut
  rw [HT.sIx_nat]
  have : HT.sIx t.length t.length none = t.length := rfl
  rw [this]
  congr 2
  by_cases h : k ≤ t.length
  · rw [Nat.min_eq_left h, List.take_of_length_le (by rw [List.length_drop]; omega)]
  · rw [Nat.min_eq_right (by omega), List.drop_length, List.drop_eq_nil_of_le (by omega), List.take_nil]
theorem edit_tb {L B : Nat} {t s : List Nat} (ht : TB L B t) (hs : TB 1 1 s) {k j : Nat} (hkj : k ≤ j) : TB (L + 1) (B + 1) (t.take k ++ s ++ t.drop j) := by
  have e1 : t.drop j = (t.drop k).drop (j - k) := by rw [List.drop_drop]; congr 1; omega
  have sub : (t.drop j).Sublist (t.drop k) := by rw [e1]; exact List.drop_sublist _ _
  have c1 := sub.count_le 32
  have c2 : (t.take k).count 32 + (t.drop k).count 32 = t.count 32 := by rw [← List.count_append, List.take_append_drop]
  have l1 := sub.length_le
  have l2 : (t.take k).length + (t.drop k).length = t.length := by rw [← List.length_append, List.take_append_drop]
  refine ⟨?_, ?_, fun c hc => ?_⟩
  · rw [List.length_append, List.length_append]
    have := ht.len; have := hs.len
    omega
  · rw [List.count_append, List.count_append]
    have := ht.bl; have := hs.bl
    omega
  · rcases List.mem_append.mp hc with hc | hc
    · rcases List.mem_append.mp hc with hc | hc
      · exact ht.asc c (List.mem_of_mem_take hc)
      · exact hs.asc c hc
    · exact ht.asc c (List.mem_of_mem_drop hc)
theorem edit_ok (lv n : Nat) {box : D} {t : List Nat} {o1 o2 o4 o5 o6 o7 o8 o9 o10 : Option D} {L Bl : Nat} (hB : BoxB (n + 3) box) (ht : TB L Bl t) (hL : L ≤ 900) : ∃ (box' : D) (t' : List Nat) (o7' o9' o10' : Option D), evSs (C (lv + 2)) wf0 eBody [some box, o1, o2, some (.str t), o4, o5, o6, o7, o8, o9, o10] = .ok .nx [some box', o1, o2, some (.str t'), o4, o5, o6, o7', o8, o9', o10'] ∧ BoxB n box' ∧ TB (L + 1) (Bl + 1) t' := by
  have hlen := ht.len
  have hz : t.length ≤ sizeLine := len_le (by omega)
  obtain ⟨r, b1, r0, r1, hb1, ht1⟩ := take_ok (lv + 1) (n + 2) (z := ((t.length : Nat) : Int) + 1) (by omega) (by omega) hB
  obtain ⟨k, rfl⟩ : ∃ k : Nat, r = (k : Nat) := ⟨r.toNat, by omega⟩
  obtain ⟨w, b2, w0, w1, hb2, ht2⟩ := take_ok (lv + 1) (n + 1) (z := 3) (by decide) (by decide) hb1
  obtain ⟨d, b3, g1, g2, g3⟩ := of_ok lv n (ds := sgl) (by simp [sgl]) (by simp [sgl]) hb2
  have ht1 : C (lv + 2) 38 [box, .int (((t.length : Nat) : Int) + 1)] = .ok (.int (k : Nat)) b1 := ht1
  have ht2 : C (lv + 2) 38 [b1, .int 3] = .ok (.int w) b2 := ht2
  obtain ⟨c, rfl, hc⟩ : ∃ c, d = .str [c] ∧ TB 1 1 [c] := by
    simp only [sgl, List.mem_cons, List.mem_nil_iff, or_false] at g1
    rcases g1 with rfl | rfl | rfl | rfl | rfl | rfl | rfl | rfl | rfl | rfl | rfl | rfl | rfl | rfl <;> exact ⟨_, rfl, ⟨by decide, by decide, by decide⟩⟩
  have hk : k ≤ t.length := by omega
  have s0 : evS (C (lv + 2)) wf0 eS0 [some box, o1, o2, some (.str t), o4, o5, o6, o7, o8, o9, o10] = .ok .nx [some b2, o1, o2, some (.str t), o4, o5, o6, o7, o8, some (.int (k : Nat)), some (.int w)] := by
    unfold eS0
    simp only [EV.v_lit, EV.v_var, EV.v_glob, EV.v_fn, EV.v_un, EV.v_bin, EV.v_slL, EV.v_slH, EV.v_slLH, EV.v_tup, EV.v_lst, EV.v_and, EV.v_or, EV.v_not, EV.v_ite, EV.v_chain, EV.v_call, EV.v_callF, EV.v_callIo, EV.v_callT, EV.v_callv, EV.v_nil, EV.v_cons, EV.v_seq, EV.v_enum, EV.v_zip, EV.v_rng1, EV.v_C, s_asg', s_asgO', s_asg2', s_expr', s_ret', s_retN', s_if', s_raise', ss_nil', ss_cons', r_ok, r_exc, r_opt, t_nm, cr_ok, cr_exc, cr_okS, List.getD_cons_zero, List.getD_cons_succ, List.set_cons_zero, List.set_cons_succ, B.pre, B.ev, Cm.ev, U.ev, D.truth, D.toInt, D.items, if_true, if_false, Bool.not_true, Bool.not_false, reduceCtorEq, Option.map_some, Option.bind_some, List.length_cons, List.length_nil, Nat.zero_add, Nat.reduceAdd, Nat.reduceLT, Nat.reduceLeDiff, Bool.and_true, Bool.true_and, decide_true, okO, hz, ht1, ht2, List.length_cons]
  have s1 : evS (C (lv + 2)) wf0 eS1 [some b2, o1, o2, some (.str t), o4, o5, o6, o7, o8, some (.int (k : Nat)), some (.int w)] = .ok .nx [some b3, o1, o2, some (.str t), o4, o5, o6, some (.str [c]), o8, some (.int (k : Nat)), some (.int w)] := by
    unfold sgl at g3
    unfold eS1
    simp only [EV.v_lit, EV.v_var, EV.v_glob, EV.v_fn, EV.v_un, EV.v_bin, EV.v_slL, EV.v_slH, EV.v_slLH, EV.v_tup, EV.v_lst, EV.v_and, EV.v_or, EV.v_not, EV.v_ite, EV.v_chain, EV.v_call, EV.v_callF, EV.v_callIo, EV.v_callT, EV.v_callv, EV.v_nil, EV.v_cons, EV.v_seq, EV.v_enum, EV.v_zip, EV.v_rng1, EV.v_C, s_asg', s_asgO', s_asg2', s_expr', s_ret', s_retN', s_if', s_raise', ss_nil', ss_cons', r_ok, r_exc, r_opt, t_nm, cr_ok, cr_exc, cr_okS, List.getD_cons_zero, List.getD_cons_succ, List.set_cons_zero, List.set_cons_succ, B.pre, B.ev, Cm.ev, U.ev, D.truth, D.toInt, D.items, if_true, if_false, Bool.not_true, Bool.not_false, reduceCtorEq, Option.map_some, Option.bind_some, List.length_cons, List.length_nil, Nat.zero_add, Nat.reduceAdd, Nat.reduceLT, Nat.reduceLeDiff, Bool.and_true, Bool.true_and, decide_true, g3]
  have sh := slice_hi hz hk
  have sl0 := slice_lo hz k
  have sl1 := slice_lo hz (k + 1)
  have e0 : ((k : Nat) : Int) + 0 = ((k : Nat) : Int) := by omega
  have e1 : ((k : Nat) : Int) + 1 = ((k + 1 : Nat) : Int) := by omega
  have lt : (t.take k).length = k := by rw [List.length_take]; omega
  have hw : w = 0 ∨ w = 1 ∨ w = 2 := by omega
  rcases hw with rfl | rfl | rfl
  · have j1 : (t.take k).length + 1 ≤ sizeLine := len_le (by omega)
    have j2 : (t.take k ++ [c]).length + (t.drop k).length ≤ sizeLine := len_le (by rw [List.length_append, List.length_drop, lt]; simp; omega)
    have i1 : decide ((0 : Int) < 2) = true := rfl
    have i2 : ((0 : Int) == 0) = true := rfl
    have s2 : evS (C (lv + 2)) wf0 eS2 [some b3, o1, o2, some (.str t), o4, o5, o6, some (.str [c]), o8, some (.int (k : Nat)), some (.int 0)] = .ok .nx [some b3, o1, o2, some (.str (t.take k ++ [c] ++ t.drop k)), o4, o5, o6, some (.str [c]), o8, some (.int (k : Nat)), some (.int 0)] := by
      unfold eS2
      simp only [EV.v_lit, EV.v_var, EV.v_glob, EV.v_fn, EV.v_un, EV.v_bin, EV.v_slL, EV.v_slH, EV.v_slLH, EV.v_tup, EV.v_lst, EV.v_and, EV.v_or, EV.v_not, EV.v_ite, EV.v_chain, EV.v_call, EV.v_callF, EV.v_callIo, EV.v_callT, EV.v_callv, EV.v_nil, EV.v_cons, EV.v_seq, EV.v_enum, EV.v_zip, EV.v_rng1, EV.v_C, s_asg', s_asgO', s_asg2', s_expr', s_ret', s_retN', s_if', s_raise', ss_nil', ss_cons', r_ok, r_exc, r_opt, t_nm, cr_ok, cr_exc, cr_okS, List.getD_cons_zero, List.getD_cons_succ, List.set_cons_zero, List.set_cons_succ, B.pre, B.ev, Cm.ev, U.ev, D.truth, D.toInt, D.items, if_true, if_false, Bool.not_true, Bool.not_false, reduceCtorEq, Option.map_some, Option.bind_some, List.length_cons, List.length_nil, Nat.zero_add, Nat.reduceAdd, Nat.reduceLT, Nat.reduceLeDiff, Bool.and_true, Bool.true_and, decide_true, sh, sl0, i1, i2, eq_ii, e0, if_pos j1, if_pos j2]
    exact ⟨b3, _, _, _, _, seq_nx _ s0 (seq_nx _ s1 (seq_nx _ s2 rfl)), g2, edit_tb ht hc (Nat.le_refl k)⟩
  · have j1 : (t.take k).length + 1 ≤ sizeLine := len_le (by omega)
    have j2 : (t.take k ++ [c]).length + (t.drop (k + 1)).length ≤ sizeLine := len_le (by rw [List.length_append, List.length_drop, lt]; simp; omega)
    have i1 : decide ((1 : Int) < 2) = true := rfl
    have i2 : ((1 : Int) == 0) = false := rfl
    have s2 : evS (C (lv + 2)) wf0 eS2 [some b3, o1, o2, some (.str t), o4, o5, o6, some (.str [c]), o8, some (.int (k : Nat)), some (.int 1)] = .ok .nx [some b3, o1, o2, some (.str (t.take k ++ [c] ++ t.drop (k + 1))), o4, o5, o6, some (.str [c]), o8, some (.int (k : Nat)), some (.int 1)] := by
      unfold eS2
      simp only [EV.v_lit, EV.v_var, EV.v_glob, EV.v_fn, EV.v_un, EV.v_bin, EV.v_slL, EV.v_slH, EV.v_slLH, EV.v_tup, EV.v_lst, EV.v_and, EV.v_or, EV.v_not, EV.v_ite, EV.v_chain, EV.v_call, EV.v_callF, EV.v_callIo, EV.v_callT, EV.v_callv, EV.v_nil, EV.v_cons, EV.v_seq, EV.v_enum, EV.v_zip, EV.v_rng1, EV.v_C, s_asg', s_asgO', s_asg2', s_expr', s_ret', s_retN', s_if', s_raise', ss_nil', ss_cons', r_ok, r_exc, r_opt, t_nm, cr_ok, cr_exc, cr_okS, List.getD_cons_zero, List.getD_cons_succ, List.set_cons_zero, List.set_cons_succ, B.pre, B.ev, Cm.ev, U.ev, D.truth, D.toInt, D.items, if_true, if_false, Bool.not_true, Bool.not_false, reduceCtorEq, Option.map_some, Option.bind_some, List.length_cons, List.length_nil, Nat.zero_add, Nat.reduceAdd, Nat.reduceLT, Nat.reduceLeDiff, Bool.and_true, Bool.true_and, decide_true, sh, sl1, i1, i2, eq_ii, e1, if_pos j1, if_pos j2]
    exact ⟨b3, _, _, _, _, seq_nx _ s0 (seq_nx _ s1 (seq_nx _ s2 rfl)), g2, edit_tb ht hc (Nat.le_succ k)⟩
  · have j1 : (t.take k).length + 0 ≤ sizeLine := len_le (by omega)
    have j2 : (t.take k ++ []).length + (t.drop (k + 1)).length ≤ sizeLine := len_le (by rw [List.length_append, List.length_drop, lt]; simp; omega)
    have i1 : decide ((2 : Int) < 2) = false := rfl
    have i2 : ((2 : Int) == 0) = false := rfl
    have s2 : evS (C (lv + 2)) wf0 eS2 [some b3, o1, o2, some (.str t), o4, o5, o6, some (.str [c]), o8, some (.int (k : Nat)), some (.int 2)] = .ok .nx [some b3, o1, o2, some (.str (t.take k ++ [] ++ t.drop (k + 1))), o4, o5, o6, some (.str [c]), o8, some (.int (k : Nat)), some (.int 2)] := by
      unfold eS2
      simp only [EV.v_lit, EV.v_var, EV.v_glob, EV.v_fn, EV.v_un, EV.v_bin, EV.v_slL, EV.v_slH, EV.v_slLH, EV.v_tup, EV.v_lst, EV.v_and, EV.v_or, EV.v_not, EV.v_ite, EV.v_chain, EV.v_call, EV.v_callF, EV.v_callIo, EV.v_callT, EV.v_callv, EV.v_nil, EV.v_cons, EV.v_seq, EV.v_enum, EV.v_zip, EV.v_rng1, EV.v_C, s_asg', s_asgO', s_asg2', s_expr', s_ret', s_retN', s_if', s_raise', ss_nil', ss_cons', r_ok, r_exc, r_opt, t_nm, cr_ok, cr_exc, cr_okS, List.getD_cons_zero, List.getD_cons_succ, List.set_cons_zero, List.set_cons_succ, B.pre, B.ev, Cm.ev, U.ev, D.truth, D.toInt, D.items, if_true, if_false, Bool.not_true, Bool.not_false, reduceCtorEq, Option.map_some, Option.bind_some, List.length_cons, List.length_nil, Nat.zero_add, Nat.reduceAdd, Nat.reduceLT, Nat.reduceLeDiff, Bool.and_true, Bool.true_and, decide_true, sh, sl1, i1, i2, eq_ii, e1, if_pos j1, if_pos j2]
    exact ⟨b3, _, _, _, _, seq_nx _ s0 (seq_nx _ s1 (seq_nx _ s2 rfl)), g2, edit_tb ht ⟨by decide, by decide, by decide⟩ (Nat.le_succ k)⟩
theorem forGo_inv {f : D → EV.Env → R Fl} {P : Nat → EV.Env → Prop} (hf : ∀ x n ρ, P (n + 1) ρ → ∃ ρ', f x ρ = .ok .nx ρ' ∧ P n ρ') : ∀ (xs : List D) (n : Nat) (ρ : EV.Env), P (n + xs.length) ρ → ∃ ρ', forGo f xs ρ = .ok .nx ρ' ∧ P n ρ'
  | [], n, ρ, h => ⟨ρ, rfl, h⟩
  | x :: xs, n, ρ, h => by
    obtain ⟨ρ1, h1, h2⟩ := hf x (n + xs.length) ρ h
    obtain ⟨ρ2, h3, h4⟩ := forGo_inv hf xs n ρ1 h2
    exact ⟨ρ2, by rw [for_nx h1]; exact h3, h4⟩
theorem edits_ok (lv n m : Nat) {box : D} {t : List Nat} {o1 o2 o4 o5 o6 o7 o8 o9 o10 : Option D} (hm : m ≤ 3) (hB : BoxB (n + 3 * m) box) (ht : TB 160 8 t) : ∃ (box' : D) (t' : List Nat) (o4' o7' o9' o10' : Option D), forGo (fun x ρ => (R.opt ρ ((Tg.nm 4).bind x ρ)).bind fun ρ1 _ => evSs (C (lv + 2)) wf0 eBody ρ1) (rangeD 0 m) [some box, o1, o2, some (.str t), o4, o5, o6, o7, o8, o9, o10] = .ok .nx [some box', o1, o2, some (.str t'), o4', o5, o6, o7', o8, o9', o10'] ∧ BoxB n box' ∧ TB 163 11 t' := by
  obtain ⟨ρ', h1, b, t', q4, q7, q9, q10, rfl, h2, h3, _⟩ := forGo_inv (f := fun x ρ => (R.opt ρ ((Tg.nm 4).bind x ρ)).bind fun ρ1 _ => evSs (C (lv + 2)) wf0 eBody ρ1) (P := fun j ρ => ∃ (b : D) (t : List Nat) (q4 q7 q9 q10 : Option D), ρ = [some b, o1, o2, some (.str t), q4, o5, o6, q7, o8, q9, q10] ∧ BoxB (n + 3 * j) b ∧ TB (163 - j) (11 - j) t ∧ j ≤ 3) (fun x j ρ hP => by
    obtain ⟨b, t, q4, q7, q9, q10, rfl, h2, h3, h4⟩ := hP
    obtain ⟨b', t', p7, p9, p10, g1, g2, g3⟩ := edit_ok lv (n + 3 * j) (o1 := o1) (o2 := o2) (o4 := some x) (o5 := o5) (o6 := o6) (o7 := q7) (o8 := o8) (o9 := q9) (o10 := q10) (h2.mono (by omega)) h3 (by omega)
    refine ⟨_, ?_, b', t', some x, p7, p9, p10, rfl, g2, g3.mono (by omega) (by omega), by omega⟩
    rw [t_nm, if_pos (by simp)]
    exact g1) (rangeD 0 m) 0 [some box, o1, o2, some (.str t), o4, o5, o6, o7, o8, o9, o10] ⟨box, t, o4, o7, o9, o10, rfl, by rw [rangeD_len]; exact hB.mono (by omega), by rw [rangeD_len]; exact ht.mono (by omega) (by omega), by rw [rangeD_len]; omega⟩
  exact ⟨b, t', q4, q7, q9, q10, h1, h2.mono (by omega), h3.mono (by omega) (by omega)⟩
end K49
end
section
set_option autoImplicit false
/-! Q49i: turns. -/
namespace K49
open PySem EV

def RP (n : Nat) (ρ : EV.Env) : Prop := ∃ (b : D) (o1 o2 o3 o4 o5 o6 o7 o8 o9 o10 : Option D), ρ = [some b, o1, o2, o3, o4, o5, o6, o7, o8, o9, o10] ∧ BoxB (91 * n) b
theorem turn_ok (lv n : Nat) {box : D} {o1 o2 o3 o4 o5 o6 o7 o8 o9 o10 : Option D} (hB : BoxB (91 * (n + 1)) box) : ∃ ρ', evSs (C (lv + 200)) wf0 rTurn [some box, o1, o2, o3, o4, o5, o6, o7, o8, o9, o10] = .ok .nx ρ' ∧ RP n ρ' := by
  obtain ⟨r, b1, r0, r1, hb1, ht1⟩ := take_ok (lv + 199) (91 * n + 90) (z := 5) (by decide) (by decide) (hB.mono (by omega))
  obtain ⟨door, rfl⟩ : ∃ k : Nat, r = (k : Nat) := ⟨r.toNat, by omega⟩
  have hd : door < 5 := by omega
  obtain ⟨t0, b2, ht2, hb2, htb⟩ := text_ok (lv + 188) (91 * n + 10) (hb1.mono (by omega)) door hd
  obtain ⟨r, b3, m0, m1, hb3, ht3⟩ := take_ok (lv + 199) (91 * n + 9) (z := 4) (by decide) (by decide) hb2
  obtain ⟨m, rfl⟩ : ∃ k : Nat, r = (k : Nat) := ⟨r.toNat, by omega⟩
  have ht1 : C (lv + 200) 38 [box, .int 5] = .ok (.int (door : Nat)) b1 := ht1
  have ht2 : C (lv + 200) 52 [b1, .int (door : Nat)] = .ok (.str t0) b2 := ht2
  have ht3 : C (lv + 200) 38 [b2, .int 4] = .ok (.int (m : Nat)) b3 := ht3
  obtain ⟨b4, t, p4, p7, p9, p10, he, hb4, htt⟩ := edits_ok (lv + 198) (91 * n) m (o1 := o1) (o2 := some (.int (door : Nat))) (o4 := o4) (o5 := o5) (o6 := o6) (o7 := o7) (o8 := o8) (o9 := o9) (o10 := o10) (by omega) (hb3.mono (by omega)) htb
  have hlen := htt.len
  have hbl := htt.bl
  have hT : Txt t := ⟨by omega, htt.asc⟩
  have s0 : evS (C (lv + 200)) wf0 tS0 [some box, o1, o2, o3, o4, o5, o6, o7, o8, o9, o10] = .ok .nx [some b1, o1, some (.int (door : Nat)), o3, o4, o5, o6, o7, o8, o9, o10] := by
    unfold tS0
    simp only [EV.v_lit, EV.v_var, EV.v_glob, EV.v_fn, EV.v_un, EV.v_bin, EV.v_slL, EV.v_slH, EV.v_slLH, EV.v_tup, EV.v_lst, EV.v_and, EV.v_or, EV.v_not, EV.v_ite, EV.v_chain, EV.v_call, EV.v_callF, EV.v_callIo, EV.v_callT, EV.v_callv, EV.v_nil, EV.v_cons, EV.v_seq, EV.v_enum, EV.v_zip, EV.v_rng1, EV.v_C, s_asg', s_asgO', s_asg2', s_expr', s_ret', s_retN', s_if', s_raise', ss_nil', ss_cons', r_ok, r_exc, r_opt, t_nm, cr_ok, cr_exc, cr_okS, List.getD_cons_zero, List.getD_cons_succ, List.set_cons_zero, List.set_cons_succ, B.pre, B.ev, Cm.ev, U.ev, D.truth, D.toInt, D.items, if_true, if_false, Bool.not_true, Bool.not_false, reduceCtorEq, Option.map_some, Option.bind_some, List.length_cons, List.length_nil, Nat.zero_add, Nat.reduceAdd, Nat.reduceLT, Nat.reduceLeDiff, Bool.and_true, Bool.true_and, decide_true, ht1]
  have s1 : evS (C (lv + 200)) wf0 tS1 [some b1, o1, some (.int (door : Nat)), o3, o4, o5, o6, o7, o8, o9, o10] = .ok .nx [some b2, o1, some (.int (door : Nat)), some (.str t0), o4, o5, o6, o7, o8, o9, o10] := by
    unfold tS1
    simp only [EV.v_lit, EV.v_var, EV.v_glob, EV.v_fn, EV.v_un, EV.v_bin, EV.v_slL, EV.v_slH, EV.v_slLH, EV.v_tup, EV.v_lst, EV.v_and, EV.v_or, EV.v_not, EV.v_ite, EV.v_chain, EV.v_call, EV.v_callF, EV.v_callIo, EV.v_callT, EV.v_callv, EV.v_nil, EV.v_cons, EV.v_seq, EV.v_enum, EV.v_zip, EV.v_rng1, EV.v_C, s_asg', s_asgO', s_asg2', s_expr', s_ret', s_retN', s_if', s_raise', ss_nil', ss_cons', r_ok, r_exc, r_opt, t_nm, cr_ok, cr_exc, cr_okS, List.getD_cons_zero, List.getD_cons_succ, List.set_cons_zero, List.set_cons_succ, B.pre, B.ev, Cm.ev, U.ev, D.truth, D.toInt, D.items, if_true, if_false, Bool.not_true, Bool.not_false, reduceCtorEq, Option.map_some, Option.bind_some, List.length_cons, List.length_nil, Nat.zero_add, Nat.reduceAdd, Nat.reduceLT, Nat.reduceLeDiff, Bool.and_true, Bool.true_and, decide_true, ht2]
  have s2 : evS (C (lv + 200)) wf0 tS2 [some b2, o1, some (.int (door : Nat)), some (.str t0), o4, o5, o6, o7, o8, o9, o10] = .ok .nx [some b4, o1, some (.int (door : Nat)), some (.str t), p4, o5, o6, p7, o8, p9, p10] := by
    have hc : evE (C (lv + 200)) (.callIo 38 0 (.cons (.lit (.int 4)) .nil)) [some b2, o1, some (.int (door : Nat)), some (.str t0), o4, o5, o6, o7, o8, o9, o10] = .ok (.int (m : Nat)) [some b3, o1, some (.int (door : Nat)), some (.str t0), o4, o5, o6, o7, o8, o9, o10] := by
      simp only [EV.v_lit, EV.v_var, EV.v_glob, EV.v_fn, EV.v_un, EV.v_bin, EV.v_slL, EV.v_slH, EV.v_slLH, EV.v_tup, EV.v_lst, EV.v_and, EV.v_or, EV.v_not, EV.v_ite, EV.v_chain, EV.v_call, EV.v_callF, EV.v_callIo, EV.v_callT, EV.v_callv, EV.v_nil, EV.v_cons, EV.v_seq, EV.v_enum, EV.v_zip, EV.v_rng1, EV.v_C, s_asg', s_asgO', s_asg2', s_expr', s_ret', s_retN', s_if', s_raise', ss_nil', ss_cons', r_ok, r_exc, r_opt, t_nm, cr_ok, cr_exc, cr_okS, List.getD_cons_zero, List.getD_cons_succ, List.set_cons_zero, List.set_cons_succ, B.pre, B.ev, Cm.ev, U.ev, D.truth, D.toInt, D.items, if_true, if_false, Bool.not_true, Bool.not_false, reduceCtorEq, Option.map_some, Option.bind_some, List.length_cons, List.length_nil, Nat.zero_add, Nat.reduceAdd, Nat.reduceLT, Nat.reduceLeDiff, Bool.and_true, Bool.true_and, decide_true, ht3]
    unfold tS2
    rw [s_for', range_of hc (by omega), r_ok]
    exact he
  have hread : C (lv + 200) 50 [.int (door : Nat), .str t] = .ok (readD (valD door t)) (.int (door : Nat)) := read_ok (lv + 14) hT (by omega) door hd
  have hheard : C (lv + 200) 42 [.int (door : Nat), .str t] = .ok (heardD (valD door t) t) (.int (door : Nat)) := heard_ok (lv + 12) hT (by omega) (by omega) hd
  cases hv : valD door t with
  | none =>
    rw [hv] at hread hheard
    have hread : C (lv + 200) 50 [.int (door : Nat), .str t] = .ok .non (.int (door : Nat)) := hread
    have hheard : C (lv + 200) 42 [.int (door : Nat), .str t] = .ok (.tup [.str [66, 97, 100, 84, 101, 120, 116], .str t]) (.int (door : Nat)) := hheard
    have hsame : C (lv + 200) 40 [.tup [.str [66, 97, 100, 84, 101, 120, 116], .str t], .tup [.str [66, 97, 100, 84, 101, 120, 116], .str t]] = .ok (.bl true) (.tup [.str [66, 97, 100, 84, 101, 120, 116], .str t]) := law_same_ok (k := 1) (.tup (by simp) fun d hd => by
      rcases List.mem_cons.mp hd with rfl | hd
      · exact .str 0 (by decide)
      · rw [List.mem_singleton.mp hd]
        exact .str 0 htt.asc) (lv + 198)
    have s3 : evS (C (lv + 200)) wf0 tS3 [some b4, o1, some (.int (door : Nat)), some (.str t), p4, o5, o6, p7, o8, p9, p10] = .ok .nx [some b4, o1, some (.int (door : Nat)), some (.str t), p4, some .non, o6, p7, o8, p9, p10] := by
      unfold tS3
      simp only [EV.v_lit, EV.v_var, EV.v_glob, EV.v_fn, EV.v_un, EV.v_bin, EV.v_slL, EV.v_slH, EV.v_slLH, EV.v_tup, EV.v_lst, EV.v_and, EV.v_or, EV.v_not, EV.v_ite, EV.v_chain, EV.v_call, EV.v_callF, EV.v_callIo, EV.v_callT, EV.v_callv, EV.v_nil, EV.v_cons, EV.v_seq, EV.v_enum, EV.v_zip, EV.v_rng1, EV.v_C, s_asg', s_asgO', s_asg2', s_expr', s_ret', s_retN', s_if', s_raise', ss_nil', ss_cons', r_ok, r_exc, r_opt, t_nm, cr_ok, cr_exc, cr_okS, List.getD_cons_zero, List.getD_cons_succ, List.set_cons_zero, List.set_cons_succ, B.pre, B.ev, Cm.ev, U.ev, D.truth, D.toInt, D.items, if_true, if_false, Bool.not_true, Bool.not_false, reduceCtorEq, Option.map_some, Option.bind_some, List.length_cons, List.length_nil, Nat.zero_add, Nat.reduceAdd, Nat.reduceLT, Nat.reduceLeDiff, Bool.and_true, Bool.true_and, decide_true, hread]
    have s4 : evS (C (lv + 200)) wf0 tS4 [some b4, o1, some (.int (door : Nat)), some (.str t), p4, some .non, o6, p7, o8, p9, p10] = .ok .nx [some b4, o1, some (.int (door : Nat)), some (.str t), p4, some .non, some (.tup [.str [66, 97, 100, 84, 101, 120, 116], .str t]), p7, o8, p9, p10] := by
      unfold tS4
      simp only [EV.v_lit, EV.v_var, EV.v_glob, EV.v_fn, EV.v_un, EV.v_bin, EV.v_slL, EV.v_slH, EV.v_slLH, EV.v_tup, EV.v_lst, EV.v_and, EV.v_or, EV.v_not, EV.v_ite, EV.v_chain, EV.v_call, EV.v_callF, EV.v_callIo, EV.v_callT, EV.v_callv, EV.v_nil, EV.v_cons, EV.v_seq, EV.v_enum, EV.v_zip, EV.v_rng1, EV.v_C, s_asg', s_asgO', s_asg2', s_expr', s_ret', s_retN', s_if', s_raise', ss_nil', ss_cons', r_ok, r_exc, r_opt, t_nm, cr_ok, cr_exc, cr_okS, List.getD_cons_zero, List.getD_cons_succ, List.set_cons_zero, List.set_cons_succ, B.pre, B.ev, Cm.ev, U.ev, D.truth, D.toInt, D.items, if_true, if_false, Bool.not_true, Bool.not_false, reduceCtorEq, Option.map_some, Option.bind_some, List.length_cons, List.length_nil, Nat.zero_add, Nat.reduceAdd, Nat.reduceLT, Nat.reduceLeDiff, Bool.and_true, Bool.true_and, decide_true, hheard]
    have s5 : evS (C (lv + 200)) wf0 tS5 [some b4, o1, some (.int (door : Nat)), some (.str t), p4, some .non, some (.tup [.str [66, 97, 100, 84, 101, 120, 116], .str t]), p7, o8, p9, p10] = .ok .nx [some b4, o1, some (.int (door : Nat)), some (.str t), p4, some .non, some (.tup [.str [66, 97, 100, 84, 101, 120, 116], .str t]), p7, o8, p9, p10] := by
      unfold tS5
      refine if_no [some b4, o1, some (.int (door : Nat)), some (.str t), p4, some .non, some (.tup [.str [66, 97, 100, 84, 101, 120, 116], .str t]), p7, o8, p9, p10] ?_ rfl
      simp only [EV.v_lit, EV.v_var, EV.v_glob, EV.v_fn, EV.v_un, EV.v_bin, EV.v_slL, EV.v_slH, EV.v_slLH, EV.v_tup, EV.v_lst, EV.v_and, EV.v_or, EV.v_not, EV.v_ite, EV.v_chain, EV.v_call, EV.v_callF, EV.v_callIo, EV.v_callT, EV.v_callv, EV.v_nil, EV.v_cons, EV.v_seq, EV.v_enum, EV.v_zip, EV.v_rng1, EV.v_C, s_asg', s_asgO', s_asg2', s_expr', s_ret', s_retN', s_if', s_raise', ss_nil', ss_cons', r_ok, r_exc, r_opt, t_nm, cr_ok, cr_exc, cr_okS, List.getD_cons_zero, List.getD_cons_succ, List.set_cons_zero, List.set_cons_succ, B.pre, B.ev, Cm.ev, U.ev, D.truth, D.toInt, D.items, if_true, if_false, Bool.not_true, Bool.not_false, reduceCtorEq, Option.map_some, Option.bind_some, List.length_cons, List.length_nil, Nat.zero_add, Nat.reduceAdd, Nat.reduceLT, Nat.reduceLeDiff, Bool.and_true, Bool.true_and, decide_true, hsame]
    have s6 : evS (C (lv + 200)) wf0 tS6 [some b4, o1, some (.int (door : Nat)), some (.str t), p4, some .non, some (.tup [.str [66, 97, 100, 84, 101, 120, 116], .str t]), p7, o8, p9, p10] = .ok .nx [some b4, o1, some (.int (door : Nat)), some (.str t), p4, some .non, some (.tup [.str [66, 97, 100, 84, 101, 120, 116], .str t]), p7, o8, p9, p10] := by
      unfold tS6
      refine if_no [some b4, o1, some (.int (door : Nat)), some (.str t), p4, some .non, some (.tup [.str [66, 97, 100, 84, 101, 120, 116], .str t]), p7, o8, p9, p10] ?_ rfl
      simp only [EV.v_lit, EV.v_var, EV.v_glob, EV.v_fn, EV.v_un, EV.v_bin, EV.v_slL, EV.v_slH, EV.v_slLH, EV.v_tup, EV.v_lst, EV.v_and, EV.v_or, EV.v_not, EV.v_ite, EV.v_chain, EV.v_call, EV.v_callF, EV.v_callIo, EV.v_callT, EV.v_callv, EV.v_nil, EV.v_cons, EV.v_seq, EV.v_enum, EV.v_zip, EV.v_rng1, EV.v_C, s_asg', s_asgO', s_asg2', s_expr', s_ret', s_retN', s_if', s_raise', ss_nil', ss_cons', r_ok, r_exc, r_opt, t_nm, cr_ok, cr_exc, cr_okS, List.getD_cons_zero, List.getD_cons_succ, List.set_cons_zero, List.set_cons_succ, B.pre, B.ev, Cm.ev, U.ev, D.truth, D.toInt, D.items, if_true, if_false, Bool.not_true, Bool.not_false, reduceCtorEq, Option.map_some, Option.bind_some, List.length_cons, List.length_nil, Nat.zero_add, Nat.reduceAdd, Nat.reduceLT, Nat.reduceLeDiff, Bool.and_true, Bool.true_and, decide_true]
    exact ⟨_, seq_nx _ s0 (seq_nx _ s1 (seq_nx _ s2 (seq_nx _ s3 (seq_nx _ s4 (seq_nx _ s5 (seq_nx _ s6 rfl)))))), b4, _, _, _, _, _, _, _, _, _, _, rfl, hb4⟩
  | some d =>
    rw [hv] at hread hheard
    have hread : C (lv + 200) 50 [.int (door : Nat), .str t] = .ok (.lst [d]) (.int (door : Nat)) := hread
    have hheard : C (lv + 200) 42 [.int (door : Nat), .str t] = .ok (.tup [d]) (.int (door : Nat)) := hheard
    obtain ⟨hsm, hgood, hwr⟩ := val_ok (by omega) (by omega) door hd hv
    have hsame : C (lv + 200) 40 [.tup [d], .tup [d]] = .ok (.bl true) (.tup [d]) := law_same_ok (k := 63) (.tup (by simp) fun e he => by rw [List.mem_singleton.mp he]; exact hsm) (lv + 136)
    obtain ⟨gb, hgood⟩ := hgood (lv + 138)
    have hgood : C (lv + 200) 55 [.int (door : Nat), d] = .ok (.bl gb) (.int (door : Nat)) := hgood
    have hwr : C (lv + 200) (wr door) [d] = .ok (.str t) d := hwr (lv + 136)
    have s3 : evS (C (lv + 200)) wf0 tS3 [some b4, o1, some (.int (door : Nat)), some (.str t), p4, o5, o6, p7, o8, p9, p10] = .ok .nx [some b4, o1, some (.int (door : Nat)), some (.str t), p4, some (.lst [d]), o6, p7, o8, p9, p10] := by
      unfold tS3
      simp only [EV.v_lit, EV.v_var, EV.v_glob, EV.v_fn, EV.v_un, EV.v_bin, EV.v_slL, EV.v_slH, EV.v_slLH, EV.v_tup, EV.v_lst, EV.v_and, EV.v_or, EV.v_not, EV.v_ite, EV.v_chain, EV.v_call, EV.v_callF, EV.v_callIo, EV.v_callT, EV.v_callv, EV.v_nil, EV.v_cons, EV.v_seq, EV.v_enum, EV.v_zip, EV.v_rng1, EV.v_C, s_asg', s_asgO', s_asg2', s_expr', s_ret', s_retN', s_if', s_raise', ss_nil', ss_cons', r_ok, r_exc, r_opt, t_nm, cr_ok, cr_exc, cr_okS, List.getD_cons_zero, List.getD_cons_succ, List.set_cons_zero, List.set_cons_succ, B.pre, B.ev, Cm.ev, U.ev, D.truth, D.toInt, D.items, if_true, if_false, Bool.not_true, Bool.not_false, reduceCtorEq, Option.map_some, Option.bind_some, List.length_cons, List.length_nil, Nat.zero_add, Nat.reduceAdd, Nat.reduceLT, Nat.reduceLeDiff, Bool.and_true, Bool.true_and, decide_true, hread]
    have s4 : evS (C (lv + 200)) wf0 tS4 [some b4, o1, some (.int (door : Nat)), some (.str t), p4, some (.lst [d]), o6, p7, o8, p9, p10] = .ok .nx [some b4, o1, some (.int (door : Nat)), some (.str t), p4, some (.lst [d]), some (.tup [d]), p7, o8, p9, p10] := by
      unfold tS4
      simp only [EV.v_lit, EV.v_var, EV.v_glob, EV.v_fn, EV.v_un, EV.v_bin, EV.v_slL, EV.v_slH, EV.v_slLH, EV.v_tup, EV.v_lst, EV.v_and, EV.v_or, EV.v_not, EV.v_ite, EV.v_chain, EV.v_call, EV.v_callF, EV.v_callIo, EV.v_callT, EV.v_callv, EV.v_nil, EV.v_cons, EV.v_seq, EV.v_enum, EV.v_zip, EV.v_rng1, EV.v_C, s_asg', s_asgO', s_asg2', s_expr', s_ret', s_retN', s_if', s_raise', ss_nil', ss_cons', r_ok, r_exc, r_opt, t_nm, cr_ok, cr_exc, cr_okS, List.getD_cons_zero, List.getD_cons_succ, List.set_cons_zero, List.set_cons_succ, B.pre, B.ev, Cm.ev, U.ev, D.truth, D.toInt, D.items, if_true, if_false, Bool.not_true, Bool.not_false, reduceCtorEq, Option.map_some, Option.bind_some, List.length_cons, List.length_nil, Nat.zero_add, Nat.reduceAdd, Nat.reduceLT, Nat.reduceLeDiff, Bool.and_true, Bool.true_and, decide_true, hheard]
    have s5 : evS (C (lv + 200)) wf0 tS5 [some b4, o1, some (.int (door : Nat)), some (.str t), p4, some (.lst [d]), some (.tup [d]), p7, o8, p9, p10] = .ok .nx [some b4, o1, some (.int (door : Nat)), some (.str t), p4, some (.lst [d]), some (.tup [d]), p7, o8, p9, p10] := by
      unfold tS5
      refine if_no [some b4, o1, some (.int (door : Nat)), some (.str t), p4, some (.lst [d]), some (.tup [d]), p7, o8, p9, p10] ?_ rfl
      simp only [EV.v_lit, EV.v_var, EV.v_glob, EV.v_fn, EV.v_un, EV.v_bin, EV.v_slL, EV.v_slH, EV.v_slLH, EV.v_tup, EV.v_lst, EV.v_and, EV.v_or, EV.v_not, EV.v_ite, EV.v_chain, EV.v_call, EV.v_callF, EV.v_callIo, EV.v_callT, EV.v_callv, EV.v_nil, EV.v_cons, EV.v_seq, EV.v_enum, EV.v_zip, EV.v_rng1, EV.v_C, s_asg', s_asgO', s_asg2', s_expr', s_ret', s_retN', s_if', s_raise', ss_nil', ss_cons', r_ok, r_exc, r_opt, t_nm, cr_ok, cr_exc, cr_okS, List.getD_cons_zero, List.getD_cons_succ, List.set_cons_zero, List.set_cons_succ, B.pre, B.ev, Cm.ev, U.ev, D.truth, D.toInt, D.items, if_true, if_false, Bool.not_true, Bool.not_false, reduceCtorEq, Option.map_some, Option.bind_some, List.length_cons, List.length_nil, Nat.zero_add, Nat.reduceAdd, Nat.reduceLT, Nat.reduceLeDiff, Bool.and_true, Bool.true_and, decide_true, at0, hsame]
    have hat : L2.atI [D.fn 11, .fn 13, .fn 15, .fn 17, .fn 20] ((door : Nat) : Int) = some (.fn (wr door)) := atD (by
      match door, hd with
      | 0, _ => rfl
      | 1, _ => rfl
      | 2, _ => rfl
      | 3, _ => rfl
      | 4, _ => rfl)
    have hq : D.eq? (.str t) (.str t) = some true := by rw [eq_ss htt.asc htt.asc, decide_eq_true rfl]
    cases gb with
    | false =>
      have s6 : evS (C (lv + 200)) wf0 tS6 [some b4, o1, some (.int (door : Nat)), some (.str t), p4, some (.lst [d]), some (.tup [d]), p7, o8, p9, p10] = .ok .nx [some b4, o1, some (.int (door : Nat)), some (.str t), p4, some (.lst [d]), some (.tup [d]), p7, o8, p9, p10] := by
        unfold tS6
        refine if_no [some b4, o1, some (.int (door : Nat)), some (.str t), p4, some (.lst [d]), some (.tup [d]), p7, o8, p9, p10] ?_ rfl
        simp only [EV.v_lit, EV.v_var, EV.v_glob, EV.v_fn, EV.v_un, EV.v_bin, EV.v_slL, EV.v_slH, EV.v_slLH, EV.v_tup, EV.v_lst, EV.v_and, EV.v_or, EV.v_not, EV.v_ite, EV.v_chain, EV.v_call, EV.v_callF, EV.v_callIo, EV.v_callT, EV.v_callv, EV.v_nil, EV.v_cons, EV.v_seq, EV.v_enum, EV.v_zip, EV.v_rng1, EV.v_C, s_asg', s_asgO', s_asg2', s_expr', s_ret', s_retN', s_if', s_raise', ss_nil', ss_cons', r_ok, r_exc, r_opt, t_nm, cr_ok, cr_exc, cr_okS, List.getD_cons_zero, List.getD_cons_succ, List.set_cons_zero, List.set_cons_succ, B.pre, B.ev, Cm.ev, U.ev, D.truth, D.toInt, D.items, if_true, if_false, Bool.not_true, Bool.not_false, reduceCtorEq, Option.map_some, Option.bind_some, List.length_cons, List.length_nil, Nat.zero_add, Nat.reduceAdd, Nat.reduceLT, Nat.reduceLeDiff, Bool.and_true, Bool.true_and, decide_true, at0, hgood]
      exact ⟨_, seq_nx _ s0 (seq_nx _ s1 (seq_nx _ s2 (seq_nx _ s3 (seq_nx _ s4 (seq_nx _ s5 (seq_nx _ s6 rfl)))))), b4, _, _, _, _, _, _, _, _, _, _, rfl, hb4⟩
    | true =>
      have s6 : evS (C (lv + 200)) wf0 tS6 [some b4, o1, some (.int (door : Nat)), some (.str t), p4, some (.lst [d]), some (.tup [d]), p7, o8, p9, p10] = .ok .nx [some b4, o1, some (.int (door : Nat)), some (.str t), p4, some (.lst [d]), some (.tup [d]), p7, some (.lst [.fn 11, .fn 13, .fn 15, .fn 17, .fn 20]), p9, p10] := by
        unfold tS6
        refine if_yes [some b4, o1, some (.int (door : Nat)), some (.str t), p4, some (.lst [d]), some (.tup [d]), p7, o8, p9, p10] ?_ ?_
        · simp only [EV.v_lit, EV.v_var, EV.v_glob, EV.v_fn, EV.v_un, EV.v_bin, EV.v_slL, EV.v_slH, EV.v_slLH, EV.v_tup, EV.v_lst, EV.v_and, EV.v_or, EV.v_not, EV.v_ite, EV.v_chain, EV.v_call, EV.v_callF, EV.v_callIo, EV.v_callT, EV.v_callv, EV.v_nil, EV.v_cons, EV.v_seq, EV.v_enum, EV.v_zip, EV.v_rng1, EV.v_C, s_asg', s_asgO', s_asg2', s_expr', s_ret', s_retN', s_if', s_raise', ss_nil', ss_cons', r_ok, r_exc, r_opt, t_nm, cr_ok, cr_exc, cr_okS, List.getD_cons_zero, List.getD_cons_succ, List.set_cons_zero, List.set_cons_succ, B.pre, B.ev, Cm.ev, U.ev, D.truth, D.toInt, D.items, if_true, if_false, Bool.not_true, Bool.not_false, reduceCtorEq, Option.map_some, Option.bind_some, List.length_cons, List.length_nil, Nat.zero_add, Nat.reduceAdd, Nat.reduceLT, Nat.reduceLeDiff, Bool.and_true, Bool.true_and, decide_true, at0, hgood]
        · refine seq_nx [some b4, o1, some (.int (door : Nat)), some (.str t), p4, some (.lst [d]), some (.tup [d]), p7, some (.lst [.fn 11, .fn 13, .fn 15, .fn 17, .fn 20]), p9, p10] ?_ (seq_nx [some b4, o1, some (.int (door : Nat)), some (.str t), p4, some (.lst [d]), some (.tup [d]), p7, some (.lst [.fn 11, .fn 13, .fn 15, .fn 17, .fn 20]), p9, p10] (if_no [some b4, o1, some (.int (door : Nat)), some (.str t), p4, some (.lst [d]), some (.tup [d]), p7, some (.lst [.fn 11, .fn 13, .fn 15, .fn 17, .fn 20]), p9, p10] ?_ rfl) rfl)
          · simp only [EV.v_lit, EV.v_var, EV.v_glob, EV.v_fn, EV.v_un, EV.v_bin, EV.v_slL, EV.v_slH, EV.v_slLH, EV.v_tup, EV.v_lst, EV.v_and, EV.v_or, EV.v_not, EV.v_ite, EV.v_chain, EV.v_call, EV.v_callF, EV.v_callIo, EV.v_callT, EV.v_callv, EV.v_nil, EV.v_cons, EV.v_seq, EV.v_enum, EV.v_zip, EV.v_rng1, EV.v_C, s_asg', s_asgO', s_asg2', s_expr', s_ret', s_retN', s_if', s_raise', ss_nil', ss_cons', r_ok, r_exc, r_opt, t_nm, cr_ok, cr_exc, cr_okS, List.getD_cons_zero, List.getD_cons_succ, List.set_cons_zero, List.set_cons_succ, B.pre, B.ev, Cm.ev, U.ev, D.truth, D.toInt, D.items, if_true, if_false, Bool.not_true, Bool.not_false, reduceCtorEq, Option.map_some, Option.bind_some, List.length_cons, List.length_nil, Nat.zero_add, Nat.reduceAdd, Nat.reduceLT, Nat.reduceLeDiff, Bool.and_true, Bool.true_and, decide_true]
          · simp only [EV.v_lit, EV.v_var, EV.v_glob, EV.v_fn, EV.v_un, EV.v_bin, EV.v_slL, EV.v_slH, EV.v_slLH, EV.v_tup, EV.v_lst, EV.v_and, EV.v_or, EV.v_not, EV.v_ite, EV.v_chain, EV.v_call, EV.v_callF, EV.v_callIo, EV.v_callT, EV.v_callv, EV.v_nil, EV.v_cons, EV.v_seq, EV.v_enum, EV.v_zip, EV.v_rng1, EV.v_C, s_asg', s_asgO', s_asg2', s_expr', s_ret', s_retN', s_if', s_raise', ss_nil', ss_cons', r_ok, r_exc, r_opt, t_nm, cr_ok, cr_exc, cr_okS, List.getD_cons_zero, List.getD_cons_succ, List.set_cons_zero, List.set_cons_succ, B.pre, B.ev, Cm.ev, U.ev, D.truth, D.toInt, D.items, if_true, if_false, Bool.not_true, Bool.not_false, reduceCtorEq, Option.map_some, Option.bind_some, List.length_cons, List.length_nil, Nat.zero_add, Nat.reduceAdd, Nat.reduceLT, Nat.reduceLeDiff, Bool.and_true, Bool.true_and, decide_true, hat, at0, hwr, hq]
      exact ⟨_, seq_nx _ s0 (seq_nx _ s1 (seq_nx _ s2 (seq_nx _ s3 (seq_nx _ s4 (seq_nx _ s5 (seq_nx _ s6 rfl)))))), b4, _, _, _, _, _, _, _, _, _, _, rfl, hb4⟩
theorem right_ok (lv : Nat) {box : D} (hB : BoxB 455 box) : ∃ out, C (lv + 201) 53 [box] = .ok (.bl true) out := by
  obtain ⟨ρ', h1, h2⟩ := forGo_inv (f := fun x ρ => (R.opt ρ ((Tg.nm 1).bind x ρ)).bind fun ρ1 _ => evSs (C (lv + 200)) wf0 rTurn ρ1) (P := RP) (fun x n ρ hP => by
    obtain ⟨b, o1, o2, o3, o4, o5, o6, o7, o8, o9, o10, rfl, hb⟩ := hP
    obtain ⟨ρ', g1, g2⟩ := turn_ok lv n (o1 := some x) (o2 := o2) (o3 := o3) (o4 := o4) (o5 := o5) (o6 := o6) (o7 := o7) (o8 := o8) (o9 := o9) (o10 := o10) hb
    refine ⟨ρ', ?_, g2⟩
    rw [t_nm, if_pos (by simp)]
    exact g1) (rangeD 0 5) 0 [some box, none, none, none, none, none, none, none, none, none, none] ⟨box, _, _, _, _, _, _, _, _, _, _, rfl, by rw [rangeD_len]; exact hB⟩
  refine ⟨(ρ'.getD 0 none).getD .non, ?_⟩
  show C (lv + 200 + 1) 53 _ = _
  rw [C_succ (di := d53) rfl]
  refine run_of (ρ := ρ') rfl ?_
  show evSs (C (lv + 200)) wf0 (.cons (.for_ (.nm 1) (.range1 (.lit (.int 5))) rTurn) (.cons (.ret (.lit (.bl true))) .nil)) [some box, none, none, none, none, none, none, none, none, none, none] = _
  have hc : evE (C (lv + 200)) (.lit (.int 5)) [some box, none, none, none, none, none, none, none, none, none, none] = .ok (.int ((5 : Nat) : Int)) [some box, none, none, none, none, none, none, none, none, none, none] := rfl
  refine seq_nx ρ' ?_ (seq_ret ?_)
  · rw [s_for', range_of hc (by decide), r_ok]
    exact h1
  · rw [s_ret', EV.v_lit, r_ok]
end K49
end
section
set_option autoImplicit false
/-! Q49j: the law. -/
namespace K49
open PySem EV

theorem forGo_mem {f : D → EV.Env → R Fl} {P : EV.Env → Prop} : ∀ {xs : List D} (ρ : EV.Env), (∀ x ∈ xs, ∀ ρ, P ρ → ∃ ρ', f x ρ = .ok .nx ρ' ∧ P ρ') → P ρ → ∃ ρ', forGo f xs ρ = .ok .nx ρ' ∧ P ρ'
  | [], ρ, _, h => ⟨ρ, rfl, h⟩
  | x :: xs, ρ, hf, h => by
    obtain ⟨ρ1, h1, h2⟩ := hf x List.mem_cons_self ρ h
    obtain ⟨ρ2, h3, h4⟩ := forGo_mem ρ1 (fun y hy => hf y (List.mem_cons_of_mem _ hy)) h2
    exact ⟨ρ2, by rw [for_nx h1]; exact h3, h4⟩
theorem enum_mem : ∀ {ds : List D} {k : Nat} {x : D}, x ∈ enumD k ds → ∃ (j : Nat) (d : D), x = .tup [.int (j : Nat), d] ∧ d ∈ ds ∧ j < k + ds.length
  | [], k, x, h => nomatch h
  | d :: ds, k, x, h => by
    rcases List.mem_cons.mp (show x ∈ D.tup [.int (k : Nat), d] :: enumD (k + 1) ds from h) with rfl | h
    · exact ⟨k, d, rfl, List.mem_cons_self, by simp⟩
    · obtain ⟨j, e, h1, h2, h3⟩ := enum_mem h
      exact ⟨j, e, h1, List.mem_cons_of_mem _ h2, by simp only [List.length_cons]; omega⟩
def cBody : Ss := .cons (.asg (.nm 5) (.bin .mod (.un .int (.var 3)) (.var 1))) (.cons (.store 2 (.var 5) (.bin .add (.bin .idx (.var 2) (.var 5)) (.bin .mul (.var 4) (.bin .add (.var 3) (.lit (.int 2)))))) .nil)
theorem cells_ok (lv : Nat) (ns : List Int) (hn : ns.length ≤ 63) : ∃ (x : Int) (out : D), C (lv + 1) 39 [.lst (ns.map .int), .int 1] = .ok (.lst [.int x]) out := by
  have first : ∃ x : Int, (.or_ (.un .list (.slH (.var 0) (.var 1))) (.lst (.cons (.lit (.int 0)) .nil)) : E) = .or_ (.un .list (.slH (.var 0) (.var 1))) (.lst (.cons (.lit (.int 0)) .nil)) ∧ evE (C lv) (.or_ (.un .list (.slH (.var 0) (.var 1))) (.lst (.cons (.lit (.int 0)) .nil))) [some (.lst (ns.map .int)), some (.int 1), none, none, none, none] = .ok (.lst [.int x]) [some (.lst (ns.map .int)), some (.int 1), none, none, none, none] := by
    cases ns with
    | nil =>
      refine ⟨0, rfl, ?_⟩
      have hs : D.slice (.lst ([] : List D)) none (some 1) = some (.lst []) := rfl
      simp only [EV.v_lit, EV.v_var, EV.v_glob, EV.v_fn, EV.v_un, EV.v_bin, EV.v_slL, EV.v_slH, EV.v_slLH, EV.v_tup, EV.v_lst, EV.v_and, EV.v_or, EV.v_not, EV.v_ite, EV.v_chain, EV.v_call, EV.v_callF, EV.v_callIo, EV.v_callT, EV.v_callv, EV.v_nil, EV.v_cons, EV.v_seq, EV.v_enum, EV.v_zip, EV.v_rng1, EV.v_C, s_asg', s_asgO', s_asg2', s_expr', s_ret', s_retN', s_if', s_raise', ss_nil', ss_cons', r_ok, r_exc, r_opt, t_nm, cr_ok, cr_exc, cr_okS, List.getD_cons_zero, List.getD_cons_succ, List.set_cons_zero, List.set_cons_succ, B.pre, B.ev, Cm.ev, U.ev, D.truth, D.toInt, D.items, if_true, if_false, Bool.not_true, Bool.not_false, reduceCtorEq, Option.map_some, Option.bind_some, List.length_cons, List.length_nil, Nat.zero_add, Nat.reduceAdd, Nat.reduceLT, Nat.reduceLeDiff, Bool.and_true, Bool.true_and, decide_true, List.map_nil, hs, List.isEmpty_nil]
    | cons y ys =>
      refine ⟨y, rfl, ?_⟩
      have hs : D.slice (.lst (.int y :: ys.map .int)) none (some 1) = some (.lst [.int y]) := by
        show some (D.lst (cut (.int y :: ys.map .int) none (some 1))) = _
        unfold cut HT.sIx
        simp
      simp only [EV.v_lit, EV.v_var, EV.v_glob, EV.v_fn, EV.v_un, EV.v_bin, EV.v_slL, EV.v_slH, EV.v_slLH, EV.v_tup, EV.v_lst, EV.v_and, EV.v_or, EV.v_not, EV.v_ite, EV.v_chain, EV.v_call, EV.v_callF, EV.v_callIo, EV.v_callT, EV.v_callv, EV.v_nil, EV.v_cons, EV.v_seq, EV.v_enum, EV.v_zip, EV.v_rng1, EV.v_C, s_asg', s_asgO', s_asg2', s_expr', s_ret', s_retN', s_if', s_raise', ss_nil', ss_cons', r_ok, r_exc, r_opt, t_nm, cr_ok, cr_exc, cr_okS, List.getD_cons_zero, List.getD_cons_succ, List.set_cons_zero, List.set_cons_succ, B.pre, B.ev, Cm.ev, U.ev, D.truth, D.toInt, D.items, if_true, if_false, Bool.not_true, Bool.not_false, reduceCtorEq, Option.map_some, Option.bind_some, List.length_cons, List.length_nil, Nat.zero_add, Nat.reduceAdd, Nat.reduceLT, Nat.reduceLeDiff, Bool.and_true, Bool.true_and, decide_true, List.map_cons, hs, List.isEmpty_cons]
  obtain ⟨x, _, hx⟩ := first
  have hsl : ∃ zs : List Int, zs.length ≤ 63 ∧ D.slice (.lst (ns.map .int)) (some 1) (some 63) = some (.lst (zs.map .int)) := by
    refine ⟨cut ns (some 1) (some 63), ?_, ?_⟩
    · unfold cut
      rw [List.length_take, List.length_drop]
      omega
    · show some (D.lst (cut (ns.map .int) (some 1) (some 63))) = _
      unfold cut
      rw [List.length_map, List.map_take, List.map_drop]
  obtain ⟨zs, hzl, hsl⟩ := hsl
  have hit : evIt (C lv) (.enum (.slLH (.var 0) (.var 1) (.lit (.int 63)))) [some (.lst (ns.map .int)), some (.int 1), some (.lst [.int x]), none, none, none] = .ok (enumD 0 (zs.map .int)) [some (.lst (ns.map .int)), some (.int 1), some (.lst [.int x]), none, none, none] := by
    simp only [EV.v_lit, EV.v_var, EV.v_glob, EV.v_fn, EV.v_un, EV.v_bin, EV.v_slL, EV.v_slH, EV.v_slLH, EV.v_tup, EV.v_lst, EV.v_and, EV.v_or, EV.v_not, EV.v_ite, EV.v_chain, EV.v_call, EV.v_callF, EV.v_callIo, EV.v_callT, EV.v_callv, EV.v_nil, EV.v_cons, EV.v_seq, EV.v_enum, EV.v_zip, EV.v_rng1, EV.v_C, s_asg', s_asgO', s_asg2', s_expr', s_ret', s_retN', s_if', s_raise', ss_nil', ss_cons', r_ok, r_exc, r_opt, t_nm, cr_ok, cr_exc, cr_okS, List.getD_cons_zero, List.getD_cons_succ, List.set_cons_zero, List.set_cons_succ, B.pre, B.ev, Cm.ev, U.ev, D.truth, D.toInt, D.items, if_true, if_false, Bool.not_true, Bool.not_false, reduceCtorEq, Option.map_some, Option.bind_some, List.length_cons, List.length_nil, Nat.zero_add, Nat.reduceAdd, Nat.reduceLT, Nat.reduceLeDiff, Bool.and_true, Bool.true_and, decide_true, hsl, D.lst?]
  obtain ⟨ρ', h1, y, o3, o4, o5, rfl⟩ := forGo_mem (f := fun x ρ => (R.opt ρ ((Tg.tp (.cons (.nm 3) (.cons (.nm 4) .nil))).bind x ρ)).bind fun ρ1 _ => evSs (C lv) wf0 cBody ρ1) (P := fun ρ => ∃ (y : Int) (o3 o4 o5 : Option D), ρ = [some (.lst (ns.map .int)), some (.int 1), some (.lst [.int y]), o3, o4, o5]) (xs := enumD 0 (zs.map .int)) [some (.lst (ns.map .int)), some (.int 1), some (.lst [.int x]), none, none, none] (fun e he ρ hP => by
    obtain ⟨y, o3, o4, o5, rfl⟩ := hP
    obtain ⟨j, d, rfl, hd, hj⟩ := enum_mem he
    obtain ⟨c, _, rfl⟩ := List.mem_map.mp hd
    have hj : j < 63 := by rw [List.length_map] at hj; omega
    refine ⟨[some (.lst (ns.map .int)), some (.int 1), some (.lst [.int (y + c * (((j : Nat) : Int) + 2))]), some (.int (j : Nat)), some (.int c), some (.int 0)], ?_, _, _, _, _, rfl⟩
    have ht := t_tp2 (i := 3) (j := 4) (d := .int (j : Nat)) (e := .int c) (ρ := [some (.lst (ns.map .int)), some (.int 1), some (.lst [.int y]), o3, o4, o5]) (by simp) (by simp)
    rw [ht]
    show evSs (C lv) wf0 cBody [some (.lst (ns.map .int)), some (.int 1), some (.lst [.int y]), some (.int (j : Nat)), some (.int c), o5] = _
    have m1 := mulc c (((j : Nat) : Int) + 2) ⟨by omega, by omega⟩
    have p1 : (0 : Int) < 1 := by decide
    have e1 : ((j : Nat) : Int) % 1 = 0 := Int.emod_one _
    have ix : L2.ixN 1 0 = some 0 := rfl
    unfold cBody
    simp only [EV.v_lit, EV.v_var, EV.v_glob, EV.v_fn, EV.v_un, EV.v_bin, EV.v_slL, EV.v_slH, EV.v_slLH, EV.v_tup, EV.v_lst, EV.v_and, EV.v_or, EV.v_not, EV.v_ite, EV.v_chain, EV.v_call, EV.v_callF, EV.v_callIo, EV.v_callT, EV.v_callv, EV.v_nil, EV.v_cons, EV.v_seq, EV.v_enum, EV.v_zip, EV.v_rng1, EV.v_C, s_asg', s_asgO', s_asg2', s_expr', s_ret', s_retN', s_if', s_raise', ss_nil', ss_cons', r_ok, r_exc, r_opt, t_nm, cr_ok, cr_exc, cr_okS, List.getD_cons_zero, List.getD_cons_succ, List.set_cons_zero, List.set_cons_succ, B.pre, B.ev, Cm.ev, U.ev, D.truth, D.toInt, D.items, if_true, if_false, Bool.not_true, Bool.not_false, reduceCtorEq, Option.map_some, Option.bind_some, List.length_cons, List.length_nil, Nat.zero_add, Nat.reduceAdd, Nat.reduceLT, Nat.reduceLeDiff, Bool.and_true, Bool.true_and, decide_true, s_store', if_pos p1, e1, at0, if_pos m1, ix]) ⟨x, none, none, none, rfl⟩
  refine ⟨y, .lst (ns.map .int), ?_⟩
  rw [C_succ (di := d39) rfl]
  refine run_of (ρ := [some (.lst (ns.map .int)), some (.int 1), some (.lst [.int y]), o3, o4, o5]) rfl ?_
  show evSs (C lv) wf0 (.cons (.asgO 2 (.or_ (.un .list (.slH (.var 0) (.var 1))) (.lst (.cons (.lit (.int 0)) .nil)))) (.cons (.for_ (.tp (.cons (.nm 3) (.cons (.nm 4) .nil))) (.enum (.slLH (.var 0) (.var 1) (.lit (.int 63)))) cBody) (.cons (.ret (.var 2)) .nil))) [some (.lst (ns.map .int)), some (.int 1), none, none, none, none] = _
  refine seq_nx [some (.lst (ns.map .int)), some (.int 1), some (.lst [.int x]), none, none, none] ?_ (seq_nx [some (.lst (ns.map .int)), some (.int 1), some (.lst [.int y]), o3, o4, o5] ?_ (seq_ret ?_))
  · rw [s_asgO', hx, r_ok]
    rfl
  · rw [s_for', hit, r_ok]
    exact h1
  · rw [s_ret', EV.v_var]
    rfl
theorem box_ok (lv : Nat) (x : Int) : ∃ (b out : D), BoxB 455 b ∧ C (lv + 1) 37 [.lst [.int x], .int 0] = .ok b out := by
  have p1 : (0 : Int) ≤ 18 ∧ (18 : Int) ≤ 1000000 ∧ (10 : Int).natAbs < 2 ^ 64 := by decide
  have p2 : (0 : Int) < 2305843009213693951 := by decide
  have m1 := mulc (if x < 0 then -x else x) (if decide ((10 : Int) ^ (18 : Int).toNat ≤ (if x < 0 then -x else x)) = true then 1 else 0) (by
    generalize decide ((10 : Int) ^ (18 : Int).toNat ≤ (if x < 0 then -x else x)) = q
    cases q <;> decide)
  have m2 := mulc 39373 0 (by decide)
  have z1 := Int.emod_nonneg x (show (2305843009213693951 : Int) ≠ 0 by decide)
  have z2 := Int.emod_lt_of_pos x p2
  refine ⟨.lst [.int ((if x < 0 then -x else x) * (if decide ((10 : Int) ^ (18 : Int).toNat ≤ (if x < 0 then -x else x)) = true then 1 else 0)), .int (x % 2305843009213693951 + 39373 * 0 + 2631649), .int 0], .lst [.int x], ⟨_, _, _, rfl, by omega, by omega, by decide, by decide⟩, ?_⟩
  rw [C_succ (di := d37) rfl]
  refine run_of (ρ := [some (.lst [.int x]), some (.int 0), some (.int x)]) rfl ?_
  show evSs (C lv) wf0 d37.body [some (.lst [.int x]), some (.int 0), none] = _
  have i1 : decide ((0 : Int) < ((1 : Nat) : Int)) = true := rfl
  unfold d37
  simp only [EV.v_lit, EV.v_var, EV.v_glob, EV.v_fn, EV.v_un, EV.v_bin, EV.v_slL, EV.v_slH, EV.v_slLH, EV.v_tup, EV.v_lst, EV.v_and, EV.v_or, EV.v_not, EV.v_ite, EV.v_chain, EV.v_call, EV.v_callF, EV.v_callIo, EV.v_callT, EV.v_callv, EV.v_nil, EV.v_cons, EV.v_seq, EV.v_enum, EV.v_zip, EV.v_rng1, EV.v_C, s_asg', s_asgO', s_asg2', s_expr', s_ret', s_retN', s_if', s_raise', ss_nil', ss_cons', r_ok, r_exc, r_opt, t_nm, cr_ok, cr_exc, cr_okS, List.getD_cons_zero, List.getD_cons_succ, List.set_cons_zero, List.set_cons_succ, B.pre, B.ev, Cm.ev, U.ev, D.truth, D.toInt, D.items, if_true, if_false, Bool.not_true, Bool.not_false, reduceCtorEq, Option.map_some, Option.bind_some, List.length_cons, List.length_nil, Nat.zero_add, Nat.reduceAdd, Nat.reduceLT, Nat.reduceLeDiff, Bool.and_true, Bool.true_and, decide_true, i1, at0, if_pos p1, if_pos m1, if_pos m2, if_pos p2]
theorem pure_ok : ∀ ns : List Int, ns.length ≤ 63 → ∃ out, callD prg.defs wf0 228 56 [.lst (ns.map D.int)] = .ok (.bl true) out := by
  intro ns hn
  obtain ⟨x, o1, hc⟩ := cells_ok 226 ns hn
  obtain ⟨b, o2, hB, hb⟩ := box_ok 226 x
  obtain ⟨o3, hr⟩ := right_ok 26 hB
  obtain ⟨b1, b2, b3, rfl, _⟩ := id hB
  have hc : C 227 39 [.lst (ns.map .int), .int 1] = .ok (.lst [.int x]) o1 := hc
  have hb : C 227 37 [.lst [.int x], .int 0] = .ok (.lst [.int b1, .int b2, .int b3]) o2 := hb
  have hr : C 227 53 [.lst [.int b1, .int b2, .int b3]] = .ok (.bl true) o3 := hr
  refine ⟨.lst (ns.map .int), ?_⟩
  show C (227 + 1) 56 [.lst (ns.map D.int)] = _
  rw [C_succ (di := d56) rfl]
  refine run_of (ρ := [some (.lst (ns.map .int))]) rfl ?_
  show evSs (C 227) wf0 d56.body [some (.lst (ns.map .int))] = _
  have v1 : ∀ {c : Nat → List D → CR} {a : E} {es : Es} {f : Nat} {ρ : EV.Env}, evE c (.callT f a es) ρ = (evE c a ρ).bind fun d ρ => (evEs c es ρ).bind fun ds ρ => match d with | .lst _ => ofCR ρ none (c f (d :: ds)) | _ => .bad := rfl
  unfold d56
  simp only [EV.v_lit, EV.v_var, EV.v_glob, EV.v_fn, EV.v_un, EV.v_bin, EV.v_slL, EV.v_slH, EV.v_slLH, EV.v_tup, EV.v_lst, EV.v_and, EV.v_or, EV.v_not, EV.v_ite, EV.v_chain, EV.v_call, EV.v_callF, EV.v_callIo, EV.v_callT, EV.v_callv, EV.v_nil, EV.v_cons, EV.v_seq, EV.v_enum, EV.v_zip, EV.v_rng1, EV.v_C, s_asg', s_asgO', s_asg2', s_expr', s_ret', s_retN', s_if', s_raise', ss_nil', ss_cons', r_ok, r_exc, r_opt, t_nm, cr_ok, cr_exc, cr_okS, List.getD_cons_zero, List.getD_cons_succ, List.set_cons_zero, List.set_cons_succ, B.pre, B.ev, Cm.ev, U.ev, D.truth, D.toInt, D.items, if_true, if_false, Bool.not_true, Bool.not_false, reduceCtorEq, Option.map_some, Option.bind_some, List.length_cons, List.length_nil, Nat.zero_add, Nat.reduceAdd, Nat.reduceLT, Nat.reduceLeDiff, Bool.and_true, Bool.true_and, decide_true, hc, hb, hr]
end K49
end
open PySem PySem.W PyProof.Rows
theorem PySem.Challenge.cw_countsandfloors_k49_texts_of_every_kind_holds : PySem.Challenge.rw_countsandfloors_k49_texts_of_every_kind.Holds := by
  w_on; o_law; k_head; (case hw => w_witness2)
  k_fill
  refine L2.walk_of (l := PySem.Challenge.rw_countsandfloors_k49_texts_of_every_kind) (n := 63) (k := 228 + 2) (x := "script") (CX := fun w => L2.CX PySem.Challenge.pw_countsandfloors_k49_texts_of_every_kind w) (sp := fun w => EV.spLaw _) rfl (by decide) rfl ⟨rfl, by decide, by decide⟩ (fun w h Y => PySem.W.kIn_of Y) ?F (fun _ _ a ns hl _ hS => ⟨a, ns, rfl, hl, hS, fun _ => rfl⟩) (fun _ _ _ _ _ h => EV.cx_none h)
  case F =>
    intro w mg fa h KX G hmg
    refine' K49.withB KX G ?b0 ?b1 ?b2 ?b3 ?b4 ?b5 ?b6 ?b7 ?b8 ?b9 ?b10 ?b11 ?b12 ?b13 ?b14 ?b15 ?b16 ?b17 ?b18 fun nm => ?_
    (case b0 => k_is)
    (case b1 => k_is)
    (case b2 => k_is)
    (case b3 => k_is)
    (case b4 => k_is)
    (case b5 => k_is)
    (case b6 => k_is)
    (case b7 => k_is)
    (case b8 => k_is)
    (case b9 => k_is)
    (case b10 => k_is)
    (case b11 => k_is)
    (case b12 => k_is)
    (case b13 => k_is)
    (case b14 => k_is)
    (case b15 => k_is)
    (case b16 => k_is)
    (case b17 => k_is)
    (case b18 => k_is)
    refine' K49.with0 KX G ?a ?l ?c ?k fun t0 => ?_
    (case a => k_is); (case l => k_is); (case c => k_is); (case k => k_is)
    refine' K49.with1 KX G ?a ?l ?c ?k fun t1 => ?_
    (case a => k_is); (case l => k_is); (case c => k_is); (case k => k_is)
    refine' K49.with2 KX G ?a ?l ?c ?k fun t2 => ?_
    (case a => k_is); (case l => k_is); (case c => k_is); (case k => k_is)
    refine' K49.with3 KX G ?a ?l ?c ?k fun t3 => ?_
    (case a => k_is); (case l => k_is); (case c => k_is); (case k => k_is)
    refine' K49.with4 KX G ?a ?l ?c ?k fun t4 => ?_
    (case a => k_is); (case l => k_is); (case c => k_is); (case k => k_is)
    refine' K49.with5 KX G ?a ?l ?c ?k fun t5 => ?_
    (case a => k_is); (case l => k_is); (case c => k_is); (case k => k_is)
    refine' K49.with6 KX G ?a ?l ?c ?k fun t6 => ?_
    (case a => k_is); (case l => k_is); (case c => k_is); (case k => k_is)
    refine' K49.with7 KX G ?a ?l ?c ?k fun t7 => ?_
    (case a => k_is); (case l => k_is); (case c => k_is); (case k => k_is)
    refine' K49.with8 KX G ?a ?l ?c ?k fun t8 => ?_
    (case a => k_is); (case l => k_is); (case c => k_is); (case k => k_is)
    refine' K49.with9 KX G ?a ?l ?c ?k fun t9 => ?_
    (case a => k_is); (case l => k_is); (case c => k_is); (case k => k_is)
    refine' K49.with10 KX G ?a ?l ?c ?k fun t10 => ?_
    (case a => k_is); (case l => k_is); (case c => k_is); (case k => k_is)
    refine' K49.with11 KX G ?a ?l ?c ?k fun t11 => ?_
    (case a => k_is); (case l => k_is); (case c => k_is); (case k => k_is)
    refine' K49.with12 KX G ?a ?l ?c ?k fun t12 => ?_
    (case a => k_is); (case l => k_is); (case c => k_is); (case k => k_is)
    refine' K49.with13 KX G ?a ?l ?c ?k fun t13 => ?_
    (case a => k_is); (case l => k_is); (case c => k_is); (case k => k_is)
    refine' K49.with14 KX G ?a ?l ?c ?k fun t14 => ?_
    (case a => k_is); (case l => k_is); (case c => k_is); (case k => k_is)
    refine' K49.with15 KX G ?a ?l ?c ?k fun t15 => ?_
    (case a => k_is); (case l => k_is); (case c => k_is); (case k => k_is)
    refine' K49.with16 KX G ?a ?l ?c ?k fun t16 => ?_
    (case a => k_is); (case l => k_is); (case c => k_is); (case k => k_is)
    refine' K49.with17 KX G ?a ?l ?c ?k fun t17 => ?_
    (case a => k_is); (case l => k_is); (case c => k_is); (case k => k_is)
    refine' K49.with18 KX G ?a ?l ?c ?k fun t18 => ?_
    (case a => k_is); (case l => k_is); (case c => k_is); (case k => k_is)
    refine' K49.with19 KX G ?a ?l ?c ?k fun t19 => ?_
    (case a => k_is); (case l => k_is); (case c => k_is); (case k => k_is)
    refine' K49.with20 KX G ?a ?l ?c ?k fun t20 => ?_
    (case a => k_is); (case l => k_is); (case c => k_is); (case k => k_is)
    refine' K49.with21 KX G ?a ?l ?c ?k fun t21 => ?_
    (case a => k_is); (case l => k_is); (case c => k_is); (case k => k_is)
    refine' K49.with22 KX G ?a ?l ?c ?k fun t22 => ?_
    (case a => k_is); (case l => k_is); (case c => k_is); (case k => k_is)
    refine' K49.with23 KX G ?a ?l ?c ?k fun t23 => ?_
    (case a => k_is); (case l => k_is); (case c => k_is); (case k => k_is)
    refine' K49.with24 KX G ?a ?l ?c ?k fun t24 => ?_
    (case a => k_is); (case l => k_is); (case c => k_is); (case k => k_is)
    refine' K49.with25 KX G ?a ?l ?c ?k fun t25 => ?_
    (case a => k_is); (case l => k_is); (case c => k_is); (case k => k_is)
    refine' K49.with26 KX G ?a ?l ?c ?k fun t26 => ?_
    (case a => k_is); (case l => k_is); (case c => k_is); (case k => k_is)
    refine' K49.with27 KX G ?a ?l ?c ?k fun t27 => ?_
    (case a => k_is); (case l => k_is); (case c => k_is); (case k => k_is)
    refine' K49.with28 KX G ?a ?l ?c ?k fun t28 => ?_
    (case a => k_is); (case l => k_is); (case c => k_is); (case k => k_is)
    refine' K49.with29 KX G ?a ?l ?c ?k fun t29 => ?_
    (case a => k_is); (case l => k_is); (case c => k_is); (case k => k_is)
    refine' K49.with30 KX G ?a ?l ?c ?k fun t30 => ?_
    (case a => k_is); (case l => k_is); (case c => k_is); (case k => k_is)
    refine' K49.with31 KX G ?a ?l ?c ?k fun t31 => ?_
    (case a => k_is); (case l => k_is); (case c => k_is); (case k => k_is)
    refine' K49.with32 KX G ?a ?l ?c ?k fun t32 => ?_
    (case a => k_is); (case l => k_is); (case c => k_is); (case k => k_is)
    refine' K49.with33 KX G ?a ?l ?c ?k fun t33 => ?_
    (case a => k_is); (case l => k_is); (case c => k_is); (case k => k_is)
    refine' K49.with34 KX G ?a ?l ?c ?k fun t34 => ?_
    (case a => k_is); (case l => k_is); (case c => k_is); (case k => k_is)
    refine' K49.with35 KX G ?a ?l ?c ?k fun t35 => ?_
    (case a => k_is); (case l => k_is); (case c => k_is); (case k => k_is)
    refine' K49.with36 KX G ?a ?l ?c ?k fun t36 => ?_
    (case a => k_is); (case l => k_is); (case c => k_is); (case k => k_is)
    refine' K49.with37 KX G ?a ?l ?c ?k fun t37 => ?_
    (case a => k_is); (case l => k_is); (case c => k_is); (case k => k_is)
    refine' K49.with38 KX G ?a ?l ?c ?k fun t38 => ?_
    (case a => k_is); (case l => k_is); (case c => k_is); (case k => k_is)
    refine' K49.with39 KX G ?a ?l ?c ?k fun t39 => ?_
    (case a => k_is); (case l => k_is); (case c => k_is); (case k => k_is)
    refine' K49.with40 KX G ?a ?l ?c ?k fun t40 => ?_
    (case a => k_is); (case l => k_is); (case c => k_is); (case k => k_is)
    refine' K49.with41 KX G ?a ?l ?c ?k fun t41 => ?_
    (case a => k_is); (case l => k_is); (case c => k_is); (case k => k_is)
    refine' K49.with42 KX G ?a ?l ?c ?k fun t42 => ?_
    (case a => k_is); (case l => k_is); (case c => k_is); (case k => k_is)
    refine' K49.with43 KX G ?a ?l ?c ?k fun t43 => ?_
    (case a => k_is); (case l => k_is); (case c => k_is); (case k => k_is)
    refine' K49.with44 KX G ?a ?l ?c ?k fun t44 => ?_
    (case a => k_is); (case l => k_is); (case c => k_is); (case k => k_is)
    refine' K49.with45 KX G ?a ?l ?c ?k fun t45 => ?_
    (case a => k_is); (case l => k_is); (case c => k_is); (case k => k_is)
    refine' K49.with46 KX G ?a ?l ?c ?k fun t46 => ?_
    (case a => k_is); (case l => k_is); (case c => k_is); (case k => k_is)
    refine' K49.with47 KX G ?a ?l ?c ?k fun t47 => ?_
    (case a => k_is); (case l => k_is); (case c => k_is); (case k => k_is)
    refine' K49.with48 KX G ?a ?l ?c ?k fun t48 => ?_
    (case a => k_is); (case l => k_is); (case c => k_is); (case k => k_is)
    refine' K49.with49 KX G ?a ?l ?c ?k fun t49 => ?_
    (case a => k_is); (case l => k_is); (case c => k_is); (case k => k_is)
    refine' K49.with50 KX G ?a ?l ?c ?k fun t50 => ?_
    (case a => k_is); (case l => k_is); (case c => k_is); (case k => k_is)
    refine' K49.with51 KX G ?a ?l ?c ?k fun t51 => ?_
    (case a => k_is); (case l => k_is); (case c => k_is); (case k => k_is)
    refine' K49.with52 KX G ?a ?l ?c ?k fun t52 => ?_
    (case a => k_is); (case l => k_is); (case c => k_is); (case k => k_is)
    refine' K49.with53 KX G ?a ?l ?c ?k fun t53 => ?_
    (case a => k_is); (case l => k_is); (case c => k_is); (case k => k_is)
    refine' K49.with54 KX G ?a ?l ?c ?k fun t54 => ?_
    (case a => k_is); (case l => k_is); (case c => k_is); (case k => k_is)
    refine' K49.with55 KX G ?a ?l ?c ?k fun t55 => ?_
    (case a => k_is); (case l => k_is); (case c => k_is); (case k => k_is)
    refine' K49.withC0 KX G ?a fun v0 => ?_
    (case a => k_is)
    refine' K49.withC1 KX G ?a fun v1 => ?_
    (case a => k_is)
    refine' K49.withC2 KX G ?a fun v2 => ?_
    (case a => k_is)
    refine' K49.withC3 KX G ?a fun v3 => ?_
    (case a => k_is)
    refine' K49.withC4 KX G ?a fun v4 => ?_
    (case a => k_is)
    refine' K49.withC5 KX G ?a fun v5 => ?_
    (case a => k_is)
    refine' K49.withC6 KX G ?a fun v6 => ?_
    (case a => k_is)
    refine' K49.withC7 KX G ?a fun v7 => ?_
    (case a => k_is)
    refine' K49.withC8 KX G ?a fun v8 => ?_
    (case a => k_is)
    refine' K49.withC9 KX G ?a fun v9 => ?_
    (case a => k_is)
    refine' (fun (c0 : K49.Cls0 _ mg _) => ?_) (K49.cls0 KX G ?aC ?xL ?sa ?ga ?gg ?nb ?a1 ?t1 ?l1 ?c1 ?k1 ?kC ?eC ?tC ?hC ?iC ?sC ?zV ?vV)
    rotate_left
    (case aC => k_is); (case xL => k_is); (case sa => k_is); (case ga => k_is); (case gg => k_is); (case nb => k_is); (case a1 => k_is); (case t1 => k_is); (case l1 => k_is); (case c1 => k_is); (case k1 => k_is); (case kC => k_is); (case eC => k_is); (case tC => k_is); (case hC => k_is); (case iC => k_is); (case sC => first | rfl | k_is); (case zV => k_is); (case vV => k_is)
    refine' K49.head_ok K49.pure_ok KX G hmg nm t0 t1 t2 t3 t4 t5 t6 t7 t8 t9 t10 t11 t12 t13 t14 t15 t16 t17 t18 t19 t20 t21 t22 t23 t24 t25 t26 t27 t28 t29 t30 t31 t32 t33 t34 t35 t36 t37 t38 t39 t40 t41 t42 t43 t44 t45 t46 t47 t48 t49 t50 t51 t52 t53 t54 t55 c0 v0 v1 v2 v3 v4 v5 v6 v7 v8 v9 ?a ?l ?c ?k
    (case a => k_is); (case l => k_is); (case c => k_is); (case k => k_is)
