import PyProof.Rows.All
import Wide.All
import OpenK.AllK
import Wide.FinOn
import HandS.ForMost
import HandS.ForExc
import HandS.Deep
import KE.KDictKeyed
import KE.KeyNested
import KE.LtData
import KE.SortData
import HandS.TupAny
import HandS.TupMul
import HandS.TupLe
import HandS.Style
import KE.DataCmp
import HandS.IsInst
import HandS.Flow
import HandS.DictComp
import HandS.Iter
import HandS.Zip
import KE.GoesNew
import HandS.Conv
import HandS.SetFor
import KE.KDictCopyH
import KE.KDictList
import HandS.TupSets
import HandS.EndBits
import PySem.Challenge.RW_leastpromise_k66_whole_any_papers_of_wha
set_option Elab.async false
set_option autoImplicit false
set_option linter.all false
set_option maxRecDepth 100000
set_option Elab.async false
set_option autoImplicit false
set_option linter.all false
set_option maxRecDepth 100000
/-! Rx1: values of the evaluator, how they lie in the heap. -/
namespace Rx
open PySem L2

/-- a value: data by value, a changing object by its number, a def by its number -/
inductive D where
  | non | bl (b : Bool) | int (i : Int) | str (s : Str) | tup (l : List D) | lst (l : List D) | ref (n : Nat) | fn (i : Nat) | scr (l : List D)
  deriving Inhabited

/-- a changing object -/
inductive O where
  | lst (l : List D)
  | dict (kvs : List (D × D))
  | ins (c : Nat) (fs : List (Str × D))
  deriving Inhabited

/-- a list that never changes again: locked -/
def PL (H : Hp) (a : Addr) (xs : List V) : Prop := ∃ o, H a = some (.frz o (.lst xs))
/-- .. or of the module: the law's argument -/
def PLK (K : PySem.W.Frag) (H : Hp) (a : Addr) (xs : List V) : Prop :=
  PL H a xs ∨
    ∃ (o : Obj) (its : Array Value) (n : Nat), K.lookup a = some o ∧ o.cls = .type "list" ∧ o.dict = none ∧ o.data = .seq its n ∧ its.size ≤ sizeLine ∧ Vals xs its.toList
theorem PL.sq {K : PySem.W.Frag} {H : Hp} {a : Addr} {xs : List V} (h : PL H a xs) : SqL K H a xs := .inl (.inr h)
theorem PLK.sq {K : PySem.W.Frag} {H : Hp} {a : Addr} {xs : List V} (h : PLK K H a xs) : SqL K H a xs := by
  rcases h with ⟨o, h⟩ | h
  · exact .inl (.inr ⟨o, h⟩)
  · exact .inr h

/-- the static part: the written part, the values of the text's defs and classes by number -/
structure G where
  K : PySem.W.Frag
  gv : Nat → V
  P : Program
  w : World

mutual
inductive Rep (g : G) (φ : List Addr) (H : Hp) : V → D → Prop
  | non : Rep g φ H .non .non
  | bl (b : Bool) : Rep g φ H (.bl b) (.bl b)
  | int (i : Int) : Rep g φ H (.int i) (.int i)
  | str (x : Str) : Rep g φ H (.str x) (.str x)
  | tup {a : Addr} {xs : List V} {ds : List D} : SqT g.K H a xs → RepL g φ H xs ds → Rep g φ H (.ref a) (.tup ds)
  | lst {a : Addr} {xs : List V} {ds : List D} : PL H a xs → RepL g φ H xs ds → Rep g φ H (.ref a) (.lst ds)
  | scr {a : Addr} {xs : List V} {ds : List D} : PLK g.K H a xs → RepL g φ H xs ds → Rep g φ H (.ref a) (.scr ds)
  | ref {a : Addr} {n : Nat} : φ[n]? = some a → Rep g φ H (.ref a) (.ref n)
  | fn (i : Nat) : Rep g φ H (g.gv i) (.fn i)
inductive RepL (g : G) (φ : List Addr) (H : Hp) : List V → List D → Prop
  | nil : RepL g φ H [] []
  | cons {v : V} {vs : List V} {d : D} {ds : List D} : Rep g φ H v d → RepL g φ H vs ds → RepL g φ H (v :: vs) (d :: ds)
end

/-- objects get numbers, tuples and locked lists stay -/
structure Ext (φ : List Addr) (H : Hp) (φ' : List Addr) (H' : Hp) : Prop where
  pre : φ <+: φ'
  tups : ∀ b xs, H b = some (.tup xs) → H' b = some (.tup xs)
  frzs : ∀ b o u, H b = some (.frz o u) → H' b = some (.frz o u)
/-- growth: besides, what is no numbered object stays -/
structure Grow (φ : List Addr) (H : Hp) (φ' : List Addr) (H' : Hp) : Prop extends Ext φ H φ' H' where
  keep : ∀ b o, H b = some o → b ∉ φ → H' b = some o
  nw : ∀ b, b ∈ φ' → b ∈ φ ∨ H b = none
theorem Grow.refl (φ : List Addr) (H : Hp) : Grow φ H φ H := ⟨⟨List.prefix_refl _, fun _ _ h => h, fun _ _ _ h => h⟩, fun _ _ h _ => h, fun _ h => .inl h⟩
theorem Ext.trans {φ φ1 φ2 : List Addr} {H H1 H2 : Hp} (a : Ext φ H φ1 H1) (b : Ext φ1 H1 φ2 H2) : Ext φ H φ2 H2 :=
  ⟨a.pre.trans b.pre, fun x xs h => b.tups x xs (a.tups x xs h), fun x o u h => b.frzs x o u (a.frzs x o u h)⟩
theorem Grow.trans {φ φ1 φ2 : List Addr} {H H1 H2 : Hp} (a : Grow φ H φ1 H1) (b : Grow φ1 H1 φ2 H2) : Grow φ H φ2 H2 :=
  ⟨a.toExt.trans b.toExt, fun x o h n => b.keep x o (a.keep x o h n) (fun z => by
      rcases a.nw x z with z | z
      · exact n z
      · rw [h] at z; cases z), fun x h => by
    rcases b.nw x h with z | z
    · exact a.nw x z
    · by_cases n : x ∈ φ
      · exact .inl n
      · refine .inr ?_
        cases q : H x with
        | none => rfl
        | some o =>
          have := a.keep x o q n
          rw [z] at this; cases this⟩
theorem Ext.get {φ φ' : List Addr} {H H' : Hp} (e : Ext φ H φ' H') {n : Nat} {a : Addr} (h : φ[n]? = some a) : φ'[n]? = some a := by
  obtain ⟨t, rfl⟩ := e.pre
  rw [List.getElem?_append_left (List.getElem?_eq_some_iff.mp h).1]; exact h
theorem Ext.sqt {φ φ' : List Addr} {H H' : Hp} (e : Ext φ H φ' H') {K : PySem.W.Frag} {a : Addr} {xs : List V} (h : SqT K H a xs) : SqT K H' a xs := by
  rcases h with (h | ⟨o, h⟩) | h
  · exact .inl (.inl (e.tups _ _ h))
  · exact .inl (.inr ⟨o, e.frzs _ _ _ h⟩)
  · exact .inr h
theorem Ext.pl {φ φ' : List Addr} {H H' : Hp} (e : Ext φ H φ' H') {a : Addr} {xs : List V} (h : PL H a xs) : PL H' a xs := by
  obtain ⟨o, h⟩ := h
  exact ⟨o, e.frzs _ _ _ h⟩
theorem Ext.plk {φ φ' : List Addr} {H H' : Hp} (e : Ext φ H φ' H') {K : PySem.W.Frag} {a : Addr} {xs : List V} (h : PLK K H a xs) : PLK K H' a xs := by
  rcases h with h | h
  · exact .inl (e.pl h)
  · exact .inr h
mutual
theorem Rep.ext {g : G} {φ φ' : List Addr} {H H' : Hp} (e : Ext φ H φ' H') : ∀ (d : D) (v : V), Rep g φ H v d → Rep g φ' H' v d
  | .non, _, h => by cases h; exact .non
  | .bl b, _, h => by cases h; exact .bl b
  | .int i, _, h => by cases h; exact .int i
  | .str x, _, h => by cases h; exact .str x
  | .tup ds, _, h => by
    cases h with
    | tup h1 h2 => exact .tup (e.sqt h1) (RepL.ext e ds _ h2)
  | .lst ds, _, h => by
    cases h with
    | lst h1 h2 => exact .lst (e.pl h1) (RepL.ext e ds _ h2)
  | .scr ds, _, h => by
    cases h with
    | scr h1 h2 => exact .scr (e.plk h1) (RepL.ext e ds _ h2)
  | .ref n, _, h => by
    cases h with
    | ref h1 => exact .ref (e.get h1)
  | .fn i, _, h => by cases h; exact .fn i
theorem RepL.ext {g : G} {φ φ' : List Addr} {H H' : Hp} (e : Ext φ H φ' H') : ∀ (ds : List D) (vs : List V), RepL g φ H vs ds → RepL g φ' H' vs ds
  | [], _, h => by cases h; exact .nil
  | d :: ds, _, h => by
    cases h with
    | cons h1 h2 => exact .cons (Rep.ext e d _ h1) (RepL.ext e ds _ h2)
end
theorem Rep.mono {g : G} {φ φ' : List Addr} {H H' : Hp} (e : Grow φ H φ' H') (d : D) (v : V) (h : Rep g φ H v d) : Rep g φ' H' v d := Rep.ext e.toExt d v h
theorem RepL.mono {g : G} {φ φ' : List Addr} {H H' : Hp} (e : Grow φ H φ' H') (d : List D) (v : List V) (h : RepL g φ H v d) : RepL g φ' H' v d := RepL.ext e.toExt d v h
section
variable {g : G} {φ : List Addr} {H : Hp}
theorem RepL.length : ∀ {vs : List V} {ds : List D}, RepL g φ H vs ds → vs.length = ds.length
  | _, [], h => by cases h; rfl
  | _, d :: ds, h => by
    cases h with
    | cons _ h2 => simp [RepL.length h2]
theorem RepL.get : ∀ {vs : List V} {ds : List D} {i : Nat} {d : D}, RepL g φ H vs ds → ds[i]? = some d → ∃ v, vs[i]? = some v ∧ Rep g φ H v d
  | _, [], _, _, h, e => by simp at e
  | _, d' :: ds, i, d, h, e => by
    cases h with
    | cons h1 h2 =>
      cases i with
      | zero => simp at e; subst e; exact ⟨_, rfl, h1⟩
      | succ i =>
        obtain ⟨v, a, b⟩ := RepL.get (i := i) h2 (by simpa using e)
        exact ⟨v, by simpa using a, b⟩
theorem RepL.getV : ∀ {vs : List V} {ds : List D} {i : Nat} {v : V}, RepL g φ H vs ds → vs[i]? = some v → ∃ d, ds[i]? = some d ∧ Rep g φ H v d
  | _, [], _, _, h, e => by cases h; simp at e
  | _, d' :: ds, i, v, h, e => by
    cases h with
    | cons h1 h2 =>
      cases i with
      | zero => simp at e; subst e; exact ⟨_, rfl, h1⟩
      | succ i =>
        obtain ⟨d, a, b⟩ := RepL.getV (i := i) h2 (by simpa using e)
        exact ⟨d, by simpa using a, b⟩
theorem RepL.append : ∀ {vs ws : List V} {ds es : List D}, RepL g φ H vs ds → RepL g φ H ws es → RepL g φ H (vs ++ ws) (ds ++ es)
  | _, _, [], _, h, k => by cases h; exact k
  | _, _, d :: ds, _, h, k => by
    cases h with
    | cons h1 h2 => exact .cons h1 (RepL.append h2 k)
theorem RepL.take : ∀ {vs : List V} {ds : List D} (n : Nat), RepL g φ H vs ds → RepL g φ H (vs.take n) (ds.take n)
  | _, _, 0, _ => by simp; exact .nil
  | _, [], n + 1, h => by cases h; exact .nil
  | _, d :: ds, n + 1, h => by
    cases h with
    | cons h1 h2 => exact .cons h1 (RepL.take n h2)
theorem RepL.drop : ∀ {vs : List V} {ds : List D} (n : Nat), RepL g φ H vs ds → RepL g φ H (vs.drop n) (ds.drop n)
  | _, _, 0, h => by simpa using h
  | _, [], n + 1, h => by cases h; exact .nil
  | _, d :: ds, n + 1, h => by
    cases h with
    | cons h1 h2 => exact RepL.drop n h2
theorem RepL.set : ∀ {vs : List V} {ds : List D} (n : Nat) {v : V} {d : D}, RepL g φ H vs ds → Rep g φ H v d → RepL g φ H (vs.set n v) (ds.set n d)
  | _, [], n, _, _, h, _ => by cases h; exact .nil
  | _, d' :: ds, 0, _, _, h, r => by
    cases h with
    | cons h1 h2 => exact .cons r h2
  | _, d' :: ds, n + 1, _, _, h, r => by
    cases h with
    | cons h1 h2 => exact .cons h1 (RepL.set n h2 r)
theorem RepL.reverse : ∀ {vs : List V} {ds : List D}, RepL g φ H vs ds → RepL g φ H vs.reverse ds.reverse
  | _, [], h => by cases h; exact .nil
  | _, d :: ds, h => by
    cases h with
    | cons h1 h2 => rw [List.reverse_cons, List.reverse_cons]; exact RepL.append (RepL.reverse h2) (.cons h1 .nil)
theorem RepL.one {v : V} {d : D} (h : Rep g φ H v d) : RepL g φ H [v] [d] := .cons h .nil
end

/-! ### the store -/
mutual
/-- a key of a dict, by value -/
def keyN : D → Option NestedKey
  | .non => some .none
  | .bl b => some (.num (if b then 1 else 0))
  | .int i => some (.num i)
  | .str s => some (.text s)
  | .tup l => (keyNs l).map .tup
  | .lst _ => none
  | .ref _ => none
  | .fn _ => none
  | .scr _ => none
def keyNs : List D → Option (List NestedKey)
  | [] => some []
  | d :: l => match keyN d, keyNs l with
    | some p, some r => some (p :: r)
    | _, _ => none
end
/-- a dict with tuples as keys: its object alone -/
def rawD (P : Program) (w : World) (a : Addr) (xs : List (NestedKey × Addr × V)) (h : Heap) : Prop :=
  (a == sysModules) = false ∧ xs.length ≤ sizeLine ∧ ∃ vs : List (NestedKey × Addr × Value), Paired (fun (p : NestedKey × Addr × V) (q : NestedKey × Addr × Value) => p.1 = q.1 ∧ p.2.1 = q.2.1 ∧ RelV p.2.2 q.2.2) xs vs ∧
    ∃ o es ep, h.get? a = some o ∧ o.ExactDict ∧ o.data = .dict es ep ∧ es.toList = vs.map (entryOfKey (nestedKind P w)) ∧ (vs.map (·.1)).Nodup
/-- its keys and values -/
def KRel (g : G) (φ : List Addr) (H : Hp) : List (D × D) → List (NestedKey × Addr × V) → Prop
  | [], [] => True
  | (k, d) :: kvs, (n, a, v) :: xs => (Rep g φ H (.ref a) k ∧ keyN k = some n ∧ n.depth ≤ 8 ∧ Rep g φ H v d) ∧ KRel g φ H kvs xs
  | _, _ => False
def RepO (g : G) (cls : Nat → Addr) (φ : List Addr) (H : Hp) (a : Addr) : O → Option HO → Prop
  | .lst ds, some (.lst xs) => RepL g φ H xs ds
  | .ins c fs, some (.ins C _ gs) => C = cls c ∧ fs.map (·.1) = gs.map (·.1) ∧ RepL g φ H (gs.map (·.2)) (fs.map (·.2))
  | .dict kvs, some (.ext ψ) => ∃ xs : List (NestedKey × Addr × V), ψ = rawD g.P g.w a xs ∧ KRel g φ H kvs xs
  | _, _ => False
theorem KRel.ext {g : G} {φ φ' : List Addr} {H H' : Hp} (e : Ext φ H φ' H') : ∀ {kvs : List (D × D)} {xs : List (NestedKey × Addr × V)}, KRel g φ H kvs xs → KRel g φ' H' kvs xs
  | [], [], _ => trivial
  | [], _ :: _, h => h.elim
  | _ :: _, [], h => h.elim
  | (k, d) :: kvs, (n, a, v) :: xs, h => ⟨⟨Rep.ext e _ _ h.1.1, h.1.2.1, h.1.2.2.1, Rep.ext e _ _ h.1.2.2.2⟩, KRel.ext e h.2⟩
end Rx

set_option Elab.async false
set_option autoImplicit false
set_option linter.all false
set_option maxRecDepth 100000
/-! Rx2: the evaluator. -/
namespace Rx
open PySem L2

inductive R (α : Type) where
  | ok (a : α) (S : List O)
  | exc (c : Nat) (x : D) (S : List O)
  | bad
def R.bind {α β : Type} : R α → (α → List O → R β) → R β
  | .ok a S, f => f a S
  | .exc c x S, _ => .exc c x S
  | .bad, _ => .bad
@[simp] theorem R.bind_ok {α β : Type} (a : α) (S : List O) (f : α → List O → R β) : (R.ok a S).bind f = f a S := rfl
@[simp] theorem R.bind_exc {α β : Type} (c : Nat) (x : D) (S : List O) (f : α → List O → R β) : (R.exc c x S : R α).bind f = .exc c x S := rfl
@[simp] theorem R.bind_bad {α β : Type} (f : α → List O → R β) : (R.bad : R α).bind f = .bad := rfl
def R.of {α : Type} (S : List O) : Option α → R α
  | some a => .ok a S
  | none => .bad
@[simp] theorem R.of_some {α : Type} (S : List O) (a : α) : R.of S (some a) = .ok a S := rfl
@[simp] theorem R.of_none {α : Type} (S : List O) : (R.of S none : R α) = .bad := rfl

/-! ### data of values -/
mutual
def D.toP : D → Option PyData
  | .non => some .none
  | .bl b => some (.bool b)
  | .int i => some (.int i)
  | .str s => some (.str s)
  | .tup l => (toPs l).map .tuple
  | .lst l => (toPs l).map .list
  | .ref _ => none
  | .fn _ => none
  | .scr _ => none
def toPs : List D → Option (List PyData)
  | [] => some []
  | d :: l => match d.toP, toPs l with
    | some p, some r => some (p :: r)
    | _, _ => none
end
mutual
/-- all references are below n -/
def D.clean (n : Nat) : D → Bool
  | .ref m => decide (m < n)
  | .tup l => cleans n l
  | .lst l => cleans n l
  | .scr l => cleans n l
  | .non => true
  | .bl _ => true
  | .int _ => true
  | .str _ => true
  | .fn _ => true
def cleans (n : Nat) : List D → Bool
  | [] => true
  | d :: l => d.clean n && cleans n l
end
mutual
def D.beq : D → D → Bool
  | .non, .non => true
  | .bl a, .bl b => a == b
  | .int a, .int b => decide (a = b)
  | .str a, .str b => decide (a = b)
  | .tup a, .tup b => beqs a b
  | .lst a, .lst b => beqs a b
  | .ref a, .ref b => decide (a = b)
  | .fn a, .fn b => decide (a = b)
  | .scr a, .scr b => beqs a b
  | _, _ => false
def beqs : List D → List D → Bool
  | [], [] => true
  | a :: l, b :: m => a.beq b && beqs l m
  | _, _ => false
end
mutual
theorem D.beq_eq : ∀ (a b : D), a.beq b = true → a = b
  | .non, b, h => by cases b <;> simp [D.beq] at h ⊢
  | .bl x, b, h => by cases b <;> simp [D.beq] at h ⊢; exact h
  | .int x, b, h => by cases b <;> simp [D.beq] at h ⊢; exact h
  | .str x, b, h => by cases b <;> simp [D.beq] at h ⊢; exact h
  | .tup x, b, h => by cases b <;> simp [D.beq] at h ⊢; exact beqs_eq _ _ h
  | .lst x, b, h => by cases b <;> simp [D.beq] at h ⊢; exact beqs_eq _ _ h
  | .ref x, b, h => by cases b <;> simp [D.beq] at h ⊢; exact h
  | .fn x, b, h => by cases b <;> simp [D.beq] at h ⊢; exact h
  | .scr x, b, h => by cases b <;> simp [D.beq] at h ⊢; exact beqs_eq _ _ h
theorem beqs_eq : ∀ (a b : List D), beqs a b = true → a = b
  | [], b, h => by cases b <;> simp [beqs] at h ⊢
  | x :: a, b, h => by
    cases b with
    | nil => simp [beqs] at h
    | cons y b =>
      simp [beqs] at h
      rw [D.beq_eq x y h.1, beqs_eq a b h.2]
end
mutual
theorem D.beq_self : ∀ (a : D), a.beq a = true
  | .non => rfl
  | .bl x => by simp [D.beq]
  | .int x => by simp [D.beq]
  | .str x => by simp [D.beq]
  | .tup x => by simp [D.beq, beqs_self x]
  | .lst x => by simp [D.beq, beqs_self x]
  | .ref x => by simp [D.beq]
  | .fn x => by simp [D.beq]
  | .scr x => by simp [D.beq, beqs_self x]
theorem beqs_self : ∀ (a : List D), beqs a a = true
  | [] => rfl
  | x :: a => by simp [beqs, D.beq_self x, beqs_self a]
end
def O.beq : O → O → Bool
  | .lst a, .lst b => beqs a b
  | .dict a, .dict b => beqs (a.map (·.1)) (b.map (·.1)) && beqs (a.map (·.2)) (b.map (·.2))
  | .ins c a, .ins d b => decide (c = d) && decide (a.map (·.1) = b.map (·.1)) && beqs (a.map (·.2)) (b.map (·.2))
  | _, _ => false
theorem zip_eq {α β : Type} : ∀ {a b : List (α × β)}, a.map (·.1) = b.map (·.1) → a.map (·.2) = b.map (·.2) → a = b
  | [], [], _, _ => rfl
  | [], _ :: _, h, _ => by simp at h
  | _ :: _, [], h, _ => by simp at h
  | (x, y) :: a, (u, v) :: b, h, k => by
    simp at h k
    rw [h.1, k.1, zip_eq h.2 k.2]
theorem O.beq_eq {a b : O} (h : a.beq b = true) : a = b := by
  cases a <;> cases b <;> simp [O.beq] at h
  · rw [beqs_eq _ _ h]
  · rw [zip_eq (beqs_eq _ _ h.1) (beqs_eq _ _ h.2)]
  · obtain ⟨⟨h1, h2⟩, h3⟩ := h
    rw [h1, zip_eq h2 (beqs_eq _ _ h3)]
theorem O.beq_self (a : O) : a.beq a = true := by
  cases a <;> simp [O.beq, beqs_self]
def O.clean (n : Nat) : O → Bool
  | .lst l => cleans n l
  | .dict l => cleans n (l.map (·.1)) && cleans n (l.map (·.2))
  | .ins _ l => cleans n (l.map (·.2))
/-- the objects that a call changed hold references below n alone -/
def tidy (n : Nat) : List O → List O → Bool
  | [], [] => true
  | a :: l, b :: m => (a.beq b || a.clean n) && tidy n l m
  | _, _ => false
theorem tidy_self (n : Nat) : ∀ S : List O, tidy n S S = true
  | [] => rfl
  | a :: l => by simp [tidy, O.beq_self, tidy_self n l]

/-! ### operations on values -/
inductive BOp where | add | sub | mul | fdiv | mod | pow
  deriving DecidableEq
inductive COp where | eq | ne | lt | le | gt | ge | is | isnot | in_ | notin
  deriving DecidableEq

def szOk (n : Nat) : Bool := decide (n ≤ 16777216)
def mulOk (i j : Int) : Bool := (decide (-18446744073709551616 < i) && decide (i < 18446744073709551616)) || (decide (-18446744073709551616 < j) && decide (j < 18446744073709551616))
/-! ### dicts -/
def isTup : D → Bool
  | .tup _ => true
  | _ => false
/-- a key that goes with the keys there are -/
def okKey (kvs : List (D × D)) (k : D) : Option NestedKey :=
  if isTup k then (if kvs.all fun kv => isTup kv.1 then (keyN k).bind fun n => if n.depth ≤ 8 then some n else none else none)
  else none
def atK (kvs : List (D × D)) (n : NestedKey) : Option D := (kvs.find? fun kv => decide (keyN kv.1 = some n)).map (·.2)
def putD2 (kvs : List (D × D)) (n : NestedKey) (k v : D) : List (D × D) :=
  if (atK kvs n).isSome then kvs.map fun kv => if keyN kv.1 = some n then (kv.1, v) else kv else kvs ++ [(k, v)]
/-- d[k], where d is a dict: none: not served; some none: not there -/
def dgetD (S : List O) (d k : D) : Option (Option D) :=
  match d with
  | .ref n => match S[n]? with
    | some (.dict kvs) => (okKey kvs k).map fun n => atK kvs n
    | _ => none
  | _ => none
def dputD (S : List O) (d k v : D) : Option (List O) :=
  match d with
  | .ref n => match S[n]? with
    | some (.dict kvs) => (okKey kvs k).bind fun q => if kvs.length < 16777216 then some (S.set n (.dict (putD2 kvs q k v))) else none
    | _ => none
  | _ => none
/-- the items of a list or tuple -/
def seqOf (S : List O) : D → Option (List D)
  | .tup l => some l
  | .lst l => some l
  | .ref n => match S[n]? with
    | some (.lst l) => some l
    | _ => none
  | _ => none
/-- .. of a list -/
def lstOf (S : List O) : D → Option (List D)
  | .lst l => some l
  | .ref n => match S[n]? with
    | some (.lst l) => some l
    | _ => none
  | _ => none
def binD (S : List O) : BOp → D → D → Option D
  | .add, .int i, .int j => some (.int (i + j))
  | .sub, .int i, .int j => some (.int (i - j))
  | .mul, .int i, .int j => if mulOk i j then some (.int (i * j)) else none
  | .fdiv, .int i, .int j => if 0 < j ∧ j < 1073741824 then some (.int (i / j)) else none
  | .mod, .int i, .int j => if 0 < j then some (.int (i % j)) else none
  | .pow, .int i, .int j => if 0 ≤ j ∧ j ≤ 1000000 ∧ i.natAbs < 18446744073709551616 then some (.int (i ^ j.toNat)) else none
  | .add, .str x, .str y => if szOk (x.length + y.length) then some (.str (x ++ y)) else none
  | .add, .tup x, .tup y => if szOk (x.length + y.length) then some (.tup (x ++ y)) else none
  | .mul, .tup x, .int k => if k = 1 then some (.tup x) else if 2 ≤ k ∧ k ≤ 1000 ∧ x.length ≤ 1000 ∧ x.isEmpty = false then some (.tup (List.replicate k.toNat x).flatten) else none
  | .add, a, b => match lstOf S a, lstOf S b with
    | some x, some y => if szOk (x.length + y.length) then some (.lst (x ++ y)) else none
    | _, _ => none
  | .mul, a, .int k => match lstOf S a with
    | some x => if -9223372036854775808 ≤ k ∧ k < 9223372036854775808 ∧ szOk (x.length * k.toNat) then some (.lst (List.replicate k.toNat x).flatten) else none
    | none => none
  | _, _, _ => none
/-- data to compare -/
def datOf (S : List O) : D → Option PyData
  | .ref n => match S[n]? with
    | some (.lst l) => (toPs l).map .list
    | _ => none
  | d => d.toP
def shp (p : PyData) : Bool := SeqAt.shaped p
def eqD (S : List O) (a b : D) : Option Bool :=
  match a, b with
  | .int i, .int j => some (decide (i = j))
  | .str x, .str y => if PyData.strOk x && PyData.strOk y then some (decide (x = y)) else none
  | .bl x, .bl y => some (x == y)
  | a, b => match datOf S a, datOf S b with
    | some p, some q => if shp p && shp q then some (PyData.eqv p q) else none
    | _, _ => none
def isNo : PyData → Bool
  | .none => true
  | _ => false
def ltD (S : List O) (a b : D) : Option Bool :=
  match a, b with
  | .int i, .int j => some (decide (i < j))
  | a, b => match datOf S a, datOf S b with
    | some p, some q => if PySem.W.alike p q && shp p && shp q && !isNo p then some (PySem.W.dataLt p q) else none
    | _, _ => none
def anyD (S : List O) (x : D) : List D → Option Bool
  | [] => some false
  | y :: l => match eqD S y x, anyD S x l with
    | some b, some c => some (b || c)
    | _, _ => none
def hasD (S : List O) (x c : D) : Option Bool :=
  match datOf S x with
  | none => none
  | some p => if shp p then match c with
    | .ref n => match S[n]? with
      | some (.lst l) => anyD S x l
      | _ => none
    | .tup l => anyD S x l
    | .lst l => anyD S x l
    | _ => none
    else none
/-- is: with None, of truth values -/
def isD : D → D → Option Bool
  | .bl a, .bl b => some (a == b)
  | .non, .non => some true
  | .bl _, .non => some false
  | .int _, .non => some false
  | .str _, .non => some false
  | .tup _, .non => some false
  | .lst _, .non => some false
  | .ref _, .non => some false
  | _, _ => none
def cmpD (S : List O) : COp → D → D → Option Bool
  | .eq, a, b => eqD S a b
  | .ne, a, b => (eqD S a b).map (!·)
  | .lt, a, b => ltD S a b
  | .gt, a, b => ltD S b a
  | .le, a, b => (ltD S b a).map (!·)
  | .ge, a, b => (ltD S a b).map (!·)
  | .is, a, b => isD a b
  | .isnot, a, b => (isD a b).map (!·)
  | .in_, a, b => hasD S a b
  | .notin, a, b => (hasD S a b).map (!·)
def truD (S : List O) : D → Option Bool
  | .non => some false
  | .bl b => some b
  | .int i => some (i != 0)
  | .str s => if szOk s.length then some ((s.length : Int) != 0) else none
  | .tup l => some (!l.isEmpty)
  | .lst l => some (!l.isEmpty)
  | .ref n => match S[n]? with
    | some (.lst l) => some (!l.isEmpty)
    | _ => none
  | .fn _ => none
  | .scr _ => none
def idxD (S : List O) (a i : D) : Option D :=
  match i with
  | .int i => (seqOf S a).bind fun l => atI l i
  | _ => none
/-! ### sorted -/
def allAlike (ps : List PyData) : Bool := ps.all fun p => ps.all fun q => PySem.W.alike p q
def sortable (ps : List PyData) : Bool := (ps.all fun p => match p with
  | .tuple (_ :: _) => true
  | _ => false) || (ps.all fun p => match p with
  | .none => false
  | .tuple _ => false
  | _ => true)
def sortD (l : List D) : Option (List D) :=
  (toPs l).bind fun ps => if allAlike ps && sortable ps && (ps.all fun p => decide (p.depth ≤ 100)) then some (((l.zip ps).mergeSort fun a b => !PySem.W.dataLt b.2 a.2).map (·.1)) else none
/-- tuples of ints -/
def intsOf : List D → Option (List Int)
  | [] => some []
  | .int i :: l => (intsOf l).map (i :: ·)
  | _ => none
def tupsI : List D → Option (List (List Int))
  | [] => some []
  | .tup t :: l => match intsOf t, tupsI l with
    | some k, some r => some (k :: r)
    | _, _ => none
  | _ => none
/-- each once -/
def nubL : List (List Int) → List (List Int)
  | [] => []
  | k :: l => if l.contains k then nubL l else k :: nubL l
def code64 : List Int → Int := fun k => k.foldl (fun a i => a * 64 + i) 0
def setSortD (l : List D) : Option (List D) :=
  (tupsI l).bind fun ks => if ks.length < 64 && (ks.all fun k => decide (1 ≤ k.length) && decide (k.length = (ks.headD []).length) && k.all fun i => decide (0 ≤ i) && decide (i < 64)) then
    some (((nubL ks).mergeSort fun a b => decide (code64 a ≤ code64 b)).map fun k => .tup (k.map .int)) else none
def cutD (xs : List D) (lo hi : Option Int) : List D := List.take (HT.sIx xs.length xs.length hi - HT.sIx xs.length 0 lo) (List.drop (HT.sIx xs.length 0 lo) xs)
/-- a[lo:hi] -/
def sliD (S : List O) (a : D) (lo hi : Option Int) : Option D :=
  match a with
  | .tup l => some (.tup (cutD l lo hi))
  | .scr l => some (.lst (cutD l lo hi))
  | a => (lstOf S a).map fun l => .lst (cutD l lo hi)
/-- a[::-1] -/
def revD (S : List O) (a : D) : Option D :=
  match a with
  | .tup l => some (.tup l.reverse)
  | _ => none
/-- an end of a slice -/
def optI : D → Option (Option Int)
  | .int i => some (some i)
  | _ => none

/-! ### the terms -/
inductive Ty where | int | bool | str | list | tuple | dict | non
  deriving DecidableEq
inductive Bi where
  | len | tuple | sum | all | any | abs | int | min2 | max2 | repr | isa (tys : List Ty) | lenset
  deriving DecidableEq
/-- what a loop stores into -/
inductive Pt where | nm (i : Nat) | tup (l : List Pt)
mutual
inductive X where
  | var (i : Nat) | lit (d : D) | con (i : Nat)
  | tup (es : List X)
  | bin (op : BOp) (a b : X) | neg (a : X) | not (a : X)
  | cmp (op : COp) (a b : X) | chain (op1 op2 : COp) (a b c : X)
  | and (es : List X) | or (es : List X) | ite (c a b : X)
  | idx (a i : X) | slice (a : X) (lo hi : List X) | rev (a : X)
  | attr (a : X) (f : Str)
  | call (f : Nat) (es : List X) | callv (f : X) (es : List X)
  | meth (a : X) (c f : Nat) (m : Str) (es : List X) | new (c f : Nat) (es : List X)
  | bi (b : Bi) (es : List X)
  | pop (a : X) (es : List X)
  | val (c : C) | own (c : C)
  | tupr (es : List X) | dnew | dix (a k : X) | din (neg : Bool) (k a : X) | dlen (a : X) | dget (a k : X) (ds : List X) | dsetd (a k v : X) | kget (i : Nat) (k z : X)
  | dcomp (ow : List Nat) (k v : X) (tg : Pt) (it : I) (cs : List X)
inductive I where
  | src (e : X) | rng (es : List X) | enum (a : X) | zip (es : List X)
inductive C where
  | disp (es : List X)
  | comp (ow : List Nat) (elt : X) (tg : Pt) (it : I) (cs : List X)
  | comp2 (ow : List Nat) (elt : X) (tg : Pt) (it : I) (cs : List X) (ow2 : List Nat) (tg2 : Pt) (it2 : I) (cs2 : List X)
  | list (a : X) | keys (a : X) | revl (a : X) | sorted (a : X) (set : Bool)
end
inductive Tg where
  | nm (i : Nat) | tup (l : List Tg) | attr (a : X) (f : Str) | sub (a i : X) | dsub (a i : X)
inductive Sm where
  | expr (e : X) | asg (t : Tg) (e : X) | par (is : List Nat) (es : List X) | aug (i : Nat) (op : BOp) (e : X)
  | append (a e : X) | extend (a e : X)
  | ite (c : X) (a b : List Sm) | whl (c : X) (b : List Sm) | for_ (tg : Pt) (it : I) (b : List Sm)
  | ret (e : X) | retN | pass | brk | cnt
  | raise (c : Nat) (e : X)
  | try_ (b : List Sm) (c : Nat) (i : Nat) (h : List Sm)

abbrev Env := List (Option D)
inductive Fl where | nx (σ : Env) | ret (d : D) | bk (σ : Env) | ct (σ : Env)
abbrev CF := Nat → List D → List O → R D

/-! ### stores to names -/
mutual
def Pt.put : Pt → D → Env → Option Env
  | .nm i, d, σ => some (σ.set i (some d))
  | .tup l, .tup ds, σ => Pt.puts l ds σ
  | .tup _, _, _ => none
def Pt.puts : List Pt → List D → Env → Option Env
  | [], [], σ => some σ
  | p :: l, d :: ds, σ => (p.put d σ).bind fun σ => Pt.puts l ds σ
  | _, _, _ => none
end

/-! ### loops -/
/-- names forgotten -/
def wipeE (σ : Env) : List Nat → Env
  | [] => σ
  | v :: vs => (wipeE σ vs).set v none
/-- the source of a loop: its items, and the changing objects that must stand as they stood -/
structure Src where
  chk : List (Nat × O)
  list : List D
/-- they stand as they stood -/
def Src.still (S : List O) (s : Src) : Bool := s.chk.all fun p => match S[p.1]? with
  | some o => o.beq p.2
  | none => false
def srcOf (S : List O) : D → Option Src
  | .tup l => some ⟨[], l⟩
  | .lst l => some ⟨[], l⟩
  | .scr l => some ⟨[], l⟩
  | .ref n => match S[n]? with
    | some (.lst l) => some ⟨[(n, .lst l)], l⟩
    | _ => none
  | _ => none
def rngL (lo : Int) (n : Nat) : List D := (List.range n).map fun i => .int (lo + (i : Nat))
def rngD : List D → Option (List D)
  | [.int j] => if -4611686018427387904 ≤ j ∧ j < 4611686018427387904 then some (rngL 0 j.toNat) else none
  | [.int i, .int j] => if (-4611686018427387904 ≤ i ∧ i < 4611686018427387904) ∧ -4611686018427387904 ≤ j ∧ j < 4611686018427387904 then some (rngL i (j - i).toNat) else none
  | _ => none
def enumL : Nat → List D → List D
  | _, [] => []
  | i, d :: l => .tup [.int i, d] :: enumL (i + 1) l
def zip2L : List D → List D → List D
  | a :: l, b :: m => .tup [a, b] :: zip2L l m
  | _, _ => []
def zip3L : List D → List D → List D → List D
  | a :: l, b :: m, c :: n => .tup [a, b, c] :: zip3L l m n
  | _, _, _ => []
/-- a comprehension's turns -/
def compL (src : Src) (turn : D → List O → R (Option D)) : List D → List O → R (List D)
  | [], S => if src.still S then .ok [] S else .bad
  | d :: l, S => if src.still S then (turn d S).bind fun o S => (compL src turn l S).bind fun r S => .ok (match o with | some x => x :: r | none => r) S else .bad
/-- .. each turn gives a list -/
def compLL (src : Src) (turn : D → List O → R (List D)) : List D → List O → R (List D)
  | [], S => if src.still S then .ok [] S else .bad
  | d :: l, S => if src.still S then (turn d S).bind fun o S => (compLL src turn l S).bind fun r S => .ok (o ++ r) S else .bad
def forL (src : Src) (turn : D → Env → List O → R Fl) : List D → Env → List O → R Fl
  | [], σ, S => if src.still S then .ok (.nx σ) S else .bad
  | d :: l, σ, S => if src.still S then (turn d σ S).bind fun f S => match f with
    | .nx σ => forL src turn l σ S
    | .ct σ => forL src turn l σ S
    | .bk σ => .ok (.nx σ) S
    | .ret d => .ok (.ret d) S else .bad
def whlL (c : Env → List O → R Bool) (b : Env → List O → R Fl) : Nat → Env → List O → R Fl
  | 0, _, _ => .bad
  | n + 1, σ, S => (c σ S).bind fun t S => if t then (b σ S).bind fun f S => match f with
    | .nx σ => whlL c b n σ S
    | .ct σ => whlL c b n σ S
    | .bk σ => .ok (.nx σ) S
    | .ret d => .ok (.ret d) S else .ok (.nx σ) S
def WF : Nat := 1000000
/-! ### written dicts of the module, text keys -/
def kfind : List D → Str → Option D
  | [], _ => none
  | .tup [.str k, v] :: l, x => if k = x then some v else kfind l x
  | _ :: l, x => kfind l x
/-- t.get(k, z) -/
def kgetD (t : Option D) (k z : D) : Option D :=
  match t, k with
  | some (.tup rows), .str x => some ((kfind rows x).getD z)
  | _, _ => none
/-! ### built-ins -/
/-- truth values alone -/
def boolsD : List D → Option (List Bool)
  | [] => some []
  | .bl b :: l => (boolsD l).map (b :: ·)
  | _ => none
def intsD : List D → Option (List Int)
  | [] => some []
  | .int b :: l => (intsD l).map (b :: ·)
  | _ => none
def tyD (S : List O) : D → Option Ty
  | .non => some .non
  | .bl _ => some .bool
  | .int _ => some .int
  | .str _ => some .str
  | .tup _ => some .tuple
  | .lst _ => some .list
  | .ref n => match S[n]? with
    | some (.lst _) => some .list
    | _ => none
  | .fn _ => none
  | .scr _ => none
/-- a bool is an int -/
def Ty.sub (a b : Ty) : Bool := decide (a = b) || (decide (a = .bool) && decide (b = .int))
def nubI : List Int → List Int
  | [] => []
  | p :: l => if l.contains p then nubI l else p :: nubI l
def biD (S : List O) : Bi → List D → Option D
  | .len, [d] => match d with
    | .str s => if szOk s.length then some (.int s.length) else none
    | d => (seqOf S d).map fun l => .int l.length
  | .tuple, [d] => match d with
    | .tup l => some (.tup l)
    | d => (lstOf S d).map .tup
  | .sum, [d] => (lstOf S d).bind fun l => (intsD l).map fun l => .int l.sum
  | .all, [d] => (lstOf S d).bind fun l => (boolsD l).map fun l => .bl (l.all id)
  | .any, [d] => (lstOf S d).bind fun l => (boolsD l).map fun l => .bl (l.any id)
  | .abs, [.int i] => some (.int (if i < 0 then -i else i))
  | .int, [.int i] => some (.int i)
  | .int, [.bl b] => some (.int (if b then 1 else 0))
  | .min2, [.int i, .int j] => some (.int (if j < i then j else i))
  | .max2, [.int i, .int j] => some (.int (if j > i then j else i))
  | .repr, [.bl b] => some (.str (if b then Str.ofString "True" else Str.ofString "False"))
  | .lenset, [d] => match d with
    | .tup l => (intsD l).bind fun ks => if ks.length < 64 then some (.int (nubI ks).length) else none
    | _ => none
  | .isa tys, [d] => (tyD S d).map fun t => .bl (tys.any fun u => t.sub u)
  | _, _ => none

/-- a dict -/
def isDx (S : List O) : D → Bool
  | .ref n => match S[n]? with
    | some (.dict _) => true
    | _ => false
  | _ => false
/-! ### the evaluator -/
section
variable (cf : CF) (cs : Nat → Option D)
mutual
def evE : X → Env → List O → R D
  | .var i, σ, S => match σ[i]? with
    | some (some d) => .ok d S
    | _ => .bad
  | .lit d, _, S => .ok d S
  | .con i, _, S => R.of S (cs i)
  | .tup es, σ, S => (evEs es σ S).bind fun l S => if szOk l.length then .ok (.tup l) S else .bad
  | .bin op a b, σ, S => (evE a σ S).bind fun x S => (evE b σ S).bind fun y S => R.of S (binD S op x y)
  | .neg a, σ, S => (evE a σ S).bind fun x S => match x with
    | .int i => .ok (.int (-i)) S
    | _ => .bad
  | .not a, σ, S => (evE a σ S).bind fun x S => R.of S ((truD S x).map fun b => .bl (!b))
  | .cmp op a b, σ, S => (evE a σ S).bind fun x S => (evE b σ S).bind fun y S => R.of S ((cmpD S op x y).map .bl)
  | .chain o1 o2 a b c, σ, S => (evE a σ S).bind fun x S => (evE b σ S).bind fun y S => (R.of S (cmpD S o1 x y)).bind fun t S =>
      if t then (evE c σ S).bind fun z S => R.of S ((cmpD S o2 y z).map .bl) else .ok (.bl false) S
  | .and es, σ, S => evAnd es σ S
  | .or es, σ, S => evOr es σ S
  | .ite c a b, σ, S => (evE c σ S).bind fun x S => (R.of S (truD S x)).bind fun t S => if t then evE a σ S else evE b σ S
  | .idx a i, σ, S => (evE a σ S).bind fun x S => (evE i σ S).bind fun y S => R.of S (idxD S x y)
  | .slice a lo hi, σ, S => (evE a σ S).bind fun x S => (evO lo σ S).bind fun l S => (evO hi σ S).bind fun h S => R.of S (sliD S x l h)
  | .rev a, σ, S => (evE a σ S).bind fun x S => R.of S (revD S x)
  | .attr a f, σ, S => (evE a σ S).bind fun x S => match x with
    | .ref n => match S[n]? with
      | some (.ins _ fs) => R.of S (fs.lookup f)
      | _ => .bad
    | _ => .bad
  | .call f es, σ, S => (evEs es σ S).bind fun l S => cf f l S
  | .callv g es, σ, S => (evE g σ S).bind fun x S => match x with
    | .fn f => (evEs es σ S).bind fun l S => cf f l S
    | _ => .bad
  | .meth a c f m es, σ, S => (evE a σ S).bind fun x S => match x with
    | .ref n => match S[n]? with
      | some (.ins c' fs) => if c' = c ∧ fs.lookup m = none then (evEs es σ S).bind fun l S => cf f (.ref n :: l) S else .bad
      | _ => .bad
    | _ => .bad
  | .new c f es, σ, S => (evEs es σ S).bind fun l S => (cf f (.ref S.length :: l) (S ++ [.ins c []])).bind fun d S' => match d with
    | .non => .ok (.ref S.length) S'
    | _ => .bad
  | .bi b es, σ, S => (evEs es σ S).bind fun l S => R.of S (biD S b l)
  | .pop a es, σ, S => (evE a σ S).bind fun x S => match x with
    | .ref n => (evEs es σ S).bind fun l S => match S[n]?, l with
      | some (.lst ds), [] => match ds.getLast? with
        | some d => .ok d (S.set n (.lst ds.dropLast))
        | none => .bad
      | _, _ => .bad
    | _ => .bad
  | .val c, σ, S => (evC c σ S).bind fun l S => .ok (.lst l) S
  | .own c, σ, S => (evC c σ S).bind fun l S => .ok (.ref S.length) (S ++ [.lst l])
  | .tupr es, σ, S => (evEs es σ S).bind fun l S => match rngD l with
    | some r => if szOk r.length then .ok (.tup r) S else .bad
    | none => .bad
  | .dnew, _, S => .ok (.ref S.length) (S ++ [.dict []])
  | .dix a k, σ, S => (evE a σ S).bind fun x S => (evE k σ S).bind fun y S => R.of S ((dgetD S x y).bind id)
  | .din neg k a, σ, S => (evE k σ S).bind fun y S => (evE a σ S).bind fun x S => R.of S ((dgetD S x y).map fun r => .bl (r.isSome ^^ neg))
  | .dlen a, σ, S => (evE a σ S).bind fun x S => match x with
    | .ref n => match S[n]? with
      | some (.dict kvs) => .ok (.int kvs.length) S
      | _ => .bad
    | _ => .bad
  | .dget a k ds, σ, S => (evE a σ S).bind fun x S => (evE k σ S).bind fun y S => (evEs ds σ S).bind fun l S => match l with
    | [] => R.of S ((dgetD S x y).map fun r => r.getD .non)
    | [z] => R.of S ((dgetD S x y).map fun r => r.getD z)
    | _ => .bad
  | .kget i k z, σ, S => (evE k σ S).bind fun x S => (evE z σ S).bind fun y S => R.of S (kgetD (cs i) x y)
  | .dsetd a k v, σ, S => (evE a σ S).bind fun x S => if isDx S x = false then .bad else (evE k σ S).bind fun y S => (evE v σ S).bind fun z S => match dgetD S x y with
    | some (some d) => .ok d S
    | some none => match dputD S x y z with
      | some S' => .ok z S'
      | none => .bad
    | none => .bad
  | .dcomp ow k v tg it cs, σ, S => (evIt it σ S).bind fun src S0 => (compL src (fun d S => match tg.put d (wipeE σ ow) with
      | some σ' => (evIfs cs σ' S).bind fun t S => if t then (evE k σ' S).bind fun x S => (evE v σ' S).bind fun y S => match dputD S (.ref S0.length) x y with
          | some S' => .ok none S'
          | none => .bad
        else .ok none S
      | none => .bad) src.list (S0 ++ [.dict []])).bind fun _ S => .ok (.ref S0.length) S
def evEs : List X → Env → List O → R (List D)
  | [], _, S => .ok [] S
  | e :: es, σ, S => (evE e σ S).bind fun x S => (evEs es σ S).bind fun l S => .ok (x :: l) S
def evAnd : List X → Env → List O → R D
  | [], _, _ => .bad
  | e :: es, σ, S => (evE e σ S).bind fun x S => if es.isEmpty then .ok x S else
      (R.of S (truD S x)).bind fun t S => if t then evAnd es σ S else .ok x S
def evOr : List X → Env → List O → R D
  | [], _, _ => .bad
  | e :: es, σ, S => (evE e σ S).bind fun x S => if es.isEmpty then .ok x S else
      (R.of S (truD S x)).bind fun t S => if t then .ok x S else evOr es σ S
/-- an end of a slice: none written, or one -/
def evO : List X → Env → List O → R (Option Int)
  | [], _, S => .ok none S
  | [e], σ, S => (evE e σ S).bind fun x S => R.of S (optI x)
  | _, _, _ => .bad
/-- all tests hold -/
def evIfs : List X → Env → List O → R Bool
  | [], _, S => .ok true S
  | e :: es, σ, S => (evE e σ S).bind fun x S => (R.of S (truD S x)).bind fun t S => if t then evIfs es σ S else .ok false S
/-- what is walked -/
def evIt : I → Env → List O → R Src
  | .rng es, σ, S => (evEs es σ S).bind fun l S => R.of S ((rngD l).map (Src.mk []))
  | .enum a, σ, S => (evE a σ S).bind fun x S => R.of S ((srcOf S x).map fun s => ⟨s.chk, enumL 0 s.list⟩)
  | .zip es, σ, S => (evEs es σ S).bind fun l S => match l with
    | [a, b] => match srcOf S a, srcOf S b with
      | some x, some y => .ok ⟨x.chk ++ y.chk, zip2L x.list y.list⟩ S
      | _, _ => .bad
    | [a, b, c] => match srcOf S a, srcOf S b, srcOf S c with
      | some x, some y, some z => .ok ⟨x.chk ++ (y.chk ++ z.chk), zip3L x.list y.list z.list⟩ S
      | _, _, _ => .bad
    | _ => .bad
  | .src e, σ, S => (evE e σ S).bind fun x S => R.of S (srcOf S x)
def evC : C → Env → List O → R (List D)
  | .disp es, σ, S => (evEs es σ S).bind fun l S => if szOk l.length then .ok l S else .bad
  | .comp ow elt tg it cs, σ, S => (evIt it σ S).bind fun src S => (compL src (fun d S => match tg.put d (wipeE σ ow) with
      | some σ' => (evIfs cs σ' S).bind fun t S => if t then (evE elt σ' S).bind fun x S => .ok (some x) S else .ok none S
      | none => .bad) src.list S).bind fun l S => if szOk l.length then .ok l S else .bad
  | .comp2 ow elt tg it cs ow2 tg2 it2 cs2, σ, S => (evIt it σ S).bind fun src S => (compLL src (fun d S => match tg.put d (wipeE σ ow) with
      | some σ' => (evIfs cs σ' S).bind fun t S => if t then (evIt it2 σ' S).bind fun src2 S => compL src2 (fun d S => match tg2.put d (wipeE σ' ow2) with
          | some σ2 => (evIfs cs2 σ2 S).bind fun t S => if t then (evE elt σ2 S).bind fun x S => .ok (some x) S else .ok none S
          | none => .bad) src2.list S else .ok [] S
      | none => .bad) src.list S).bind fun l S => if szOk l.length then .ok l S else .bad
  | .list a, σ, S => (evE a σ S).bind fun x S => R.of S (seqOf S x)
  | .revl a, σ, S => (evE a σ S).bind fun x S => R.of S ((lstOf S x).map List.reverse)
  | .keys a, σ, S => (evE a σ S).bind fun x S => match x with
    | .ref n => match S[n]? with
      | some (.dict kvs) => if kvs.all fun kv => isTup kv.1 then .ok (kvs.map (·.1)) S else .bad
      | _ => .bad
    | _ => .bad
  | .sorted a set, σ, S => (evE a σ S).bind fun x S => R.of S (if set then (seqOf S x).bind setSortD else (lstOf S x).bind sortD)
end
end

/-! ### statements -/
def putD (f : Str) (v : D) : List (Str × D) → List (Str × D)
  | [] => [(f, v)]
  | (g, x) :: r => if g = f then (g, v) :: r else (g, x) :: putD f v r
/-- a[i] = v -/
def setD (S : List O) (a i v : D) : Option (List O) :=
  match a, i with
  | .ref n, .int k => match S[n]? with
    | some (.lst l) => (ixN l.length k).map fun j => S.set n (.lst (l.set j v))
    | _ => none
  | _, _ => none
section
variable (cf : CF) (cs : Nat → Option D)
mutual
def evT : Tg → D → Env → List O → R Env
  | .nm i, d, σ, S => .ok (σ.set i (some d)) S
  | .tup l, d, σ, S => match d with
    | .tup ds => evTs l ds σ S
    | _ => .bad
  | .attr a f, d, σ, S => (evE cf cs a σ S).bind fun x S => match x with
    | .ref n => match S[n]? with
      | some (.ins c fs) => if fs.length < 1000 then .ok σ (S.set n (.ins c (putD f d fs))) else .bad
      | _ => .bad
    | _ => .bad
  | .sub a i, d, σ, S => (evE cf cs a σ S).bind fun x S => (evE cf cs i σ S).bind fun y S => match setD S x y d with
    | some S' => .ok σ S'
    | none => .bad
  | .dsub a i, d, σ, S => (evE cf cs a σ S).bind fun x S => (evE cf cs i σ S).bind fun y S => match dputD S x y d with
    | some S' => .ok σ S'
    | none => .bad
def evTs : List Tg → List D → Env → List O → R Env
  | [], [], σ, S => .ok σ S
  | t :: l, d :: ds, σ, S => (evT t d σ S).bind fun σ S => evTs l ds σ S
  | _, _, _, _ => .bad
end
def setsE : List Nat → List D → Env → Option Env
  | [], [], σ => some σ
  | i :: is, d :: ds, σ => setsE is ds (σ.set i (some d))
  | _, _, _ => none
/-- a list stands there -/
def isL (S : List O) (n : Nat) : Bool := match S[n]? with
  | some (.lst _) => true
  | _ => false
def augD (S : List O) : BOp → D → D → Option D
  | .add, .int i, .int j => some (.int (i + j))
  | .sub, .int i, .int j => some (.int (i - j))
  | _, _, _ => none
mutual
def evS : Sm → Env → List O → R Fl
  | .expr e, σ, S => (evE cf cs e σ S).bind fun _ S => .ok (.nx σ) S
  | .asg t e, σ, S => (evE cf cs e σ S).bind fun d S => (evT cf cs t d σ S).bind fun σ S => .ok (.nx σ) S
  | .par is es, σ, S => (evEs cf cs es σ S).bind fun ds S => (R.of S (setsE is ds σ)).bind fun σ S => .ok (.nx σ) S
  | .aug i op e, σ, S => match σ[i]? with
    | some (some x) => (evE cf cs e σ S).bind fun y S => (R.of S (augD S op x y)).bind fun d S => .ok (.nx (σ.set i (some d))) S
    | _ => .bad
  | .append a e, σ, S => (evE cf cs a σ S).bind fun x S => match x with
    | .ref n => if isL S n = false then .bad else (evE cf cs e σ S).bind fun d S => match S[n]? with
      | some (.lst l) => if l.length < 16777216 then .ok (.nx σ) (S.set n (.lst (l ++ [d]))) else .bad
      | _ => .bad
    | _ => .bad
  | .extend a e, σ, S => (evE cf cs a σ S).bind fun x S => match x with
    | .ref n => if isL S n = false then .bad else (evE cf cs e σ S).bind fun d S => match S[n]?, lstOf S d with
      | some (.lst l), some m => if szOk (l.length + m.length) then .ok (.nx σ) (S.set n (.lst (l ++ m))) else .bad
      | _, _ => .bad
    | _ => .bad
  | .ite c a b, σ, S => (evE cf cs c σ S).bind fun x S => (R.of S (truD S x)).bind fun t S => if t then evB a σ S else evB b σ S
  | .whl c b, σ, S => whlL (fun σ S => (evE cf cs c σ S).bind fun x S => R.of S (truD S x)) (fun σ S => evB b σ S) WF σ S
  | .for_ tg it b, σ, S => (evIt cf cs it σ S).bind fun src S => forL src (fun d σ S => match tg.put d σ with
    | some σ => evB b σ S
    | none => .bad) src.list σ S
  | .ret e, σ, S => (evE cf cs e σ S).bind fun d S => .ok (.ret d) S
  | .retN, _, S => .ok (.ret .non) S
  | .pass, σ, S => .ok (.nx σ) S
  | .brk, σ, S => .ok (.bk σ) S
  | .cnt, σ, S => .ok (.ct σ) S
  | .raise c e, σ, S => (evE cf cs e σ S).bind fun d S => .exc c d S
  | .try_ _ _ _ _, _, _ => .bad
def evB : List Sm → Env → List O → R Fl
  | [], σ, S => .ok (.nx σ) S
  | s :: b, σ, S => (evS s σ S).bind fun f S => match f with
    | .nx σ => evB b σ S
    | f => .ok f S
end
end
/-- a def: how many parameters, how many names, its body, whether what it made aside is forgotten at its end -/
structure Fn where
  np : Nat
  nl : Nat
  body : List Sm
  tidy : Bool
/-- a def's end: what it made aside is forgotten, a new list is told by value -/
def fin (t : Bool) (n : Nat) (S : List O) (d : D) (S' : List O) : R D :=
  if t then
    if tidy n (S'.take n) S then
      match d with
      | .ref m => if m < n then .ok d (S'.take n) else match S'[m]? with
        | some (.lst l) => if cleans n l then .ok (.lst l) (S'.take n) else .ok d S'
        | _ => .ok d S'
      | d => if d.clean n then .ok d (S'.take n) else .ok d S'
    else .ok d S'
  else .ok d S'
def evF (cs : Nat → Option D) (T : List Fn) : Nat → CF
  | 0, _, _, _ => .bad
  | k + 1, i, ds, S => match T[i]? with
    | none => .bad
    | some f => if ds.length = f.np then
        (evB (evF cs T k) cs f.body (ds.map some ++ List.replicate (f.nl - f.np) none) S).bind fun r S' => match r with
          | .ret d => fin f.tidy S.length S d S'
          | .nx _ => fin f.tidy S.length S .non S'
          | _ => .bad
      else .bad
end Rx

set_option Elab.async false
set_option autoImplicit false
set_option linter.all false
set_option maxRecDepth 100000
/-! Rx4: the store in the heap, freezing, operators. -/
namespace Rx
open PySem L2

variable {g : G} {cl : Nat → Addr}

theorem RepO.ext {φ φ' : List Addr} {H H' : Hp} (e : Ext φ H φ' H') {a : Addr} {o : O} {h : Option HO} (r : RepO g cl φ H a o h) : RepO g cl φ' H' a o h := by
  cases o with
  | lst ds =>
    cases h with
    | none => exact r
    | some h => cases h <;> first | exact r | exact RepL.ext e _ _ r
  | ins c fs =>
    cases h with
    | none => exact r
    | some h => cases h <;> first | exact r | exact ⟨r.1, r.2.1, RepL.ext e _ _ r.2.2⟩
  | dict kvs =>
    cases h with
    | none => exact r
    | some h =>
      cases h <;> first
        | exact r
        | (obtain ⟨xs, e1, r1⟩ := r; exact ⟨xs, e1, KRel.ext e r1⟩)

theorem RepO.mono {φ φ' : List Addr} {H H' : Hp} (e : Grow φ H φ' H') {a : Addr} {o : O} {h : Option HO} (r : RepO g cl φ H a o h) : RepO g cl φ' H' a o h := RepO.ext e.toExt r
structure RS (g : G) (cl : Nat → Addr) (φ : List Addr) (S : List O) (H : Hp) : Prop where
  len : φ.length = S.length
  nd : φ.Nodup
  ob : ∀ (n : Nat) (a : Addr) (o : O), φ[n]? = some a → S[n]? = some o → RepO g cl φ H a o (H a)

theorem RepO.isSome {φ : List Addr} {H : Hp} {a : Addr} {o : O} {h : Option HO} (r : RepO g cl φ H a o h) : ∃ u, h = some u := by
  cases h with
  | some u => exact ⟨u, rfl⟩
  | none => cases o <;> exact r.elim
/-- what a changing object is -/
def Chg : HO → Prop
  | .lst _ => True
  | .ins _ _ _ => True
  | .dK _ => True
  | .ext _ => True
  | _ => False
theorem RepO.chg {φ : List Addr} {H : Hp} {a : Addr} {o : O} {u : HO} (r : RepO g cl φ H a o (some u)) : Chg u := by
  cases o <;> cases u <;> first | trivial | exact r.elim
theorem RS.at {φ : List Addr} {S : List O} {H : Hp} (r : RS g cl φ S H) {n : Nat} {a : Addr} (h : φ[n]? = some a) : ∃ o u, S[n]? = some o ∧ H a = some u ∧ RepO g cl φ H a o (some u) := by
  have hn : n < S.length := by rw [← r.len]; exact (List.getElem?_eq_some_iff.mp h).1
  have e : S[n]? = some S[n] := List.getElem?_eq_getElem hn
  have q := r.ob n a _ h e
  obtain ⟨u, hu⟩ := q.isSome
  exact ⟨_, u, e, hu, by rw [← hu]; exact q⟩
theorem RS.addr {φ : List Addr} {S : List O} {H : Hp} (r : RS g cl φ S H) {n : Nat} {o : O} (h : S[n]? = some o) : ∃ a u, φ[n]? = some a ∧ H a = some u ∧ RepO g cl φ H a o (some u) := by
  have hn : n < φ.length := by rw [r.len]; exact (List.getElem?_eq_some_iff.mp h).1
  have e : φ[n]? = some φ[n] := List.getElem?_eq_getElem hn
  have q := r.ob n _ _ e h
  obtain ⟨u, hu⟩ := q.isSome
  exact ⟨_, u, e, hu, by rw [← hu]; exact q⟩
theorem RS.free {φ : List Addr} {S : List O} {H : Hp} (r : RS g cl φ S H) {p : Addr} (h : H p = none) : p ∉ φ := fun hp => by
  obtain ⟨n, hn⟩ := List.getElem?_of_mem hp
  obtain ⟨o, u, _, hu, _⟩ := r.at hn
  rw [h] at hu; cases hu

/-- a new thing that is no changing object -/
theorem Grow.new {φ : List Addr} {H : Hp} {p : Addr} {o : HO} (h : H p = none) : Grow φ H φ (upd H p o) :=
  ⟨⟨List.prefix_refl _, fun b xs e => by rw [upd_ne (ne_of_none e h)]; exact e, fun b ob u e => by rw [upd_ne (ne_of_none e h)]; exact e⟩, fun b ob e _ => by rw [upd_ne (ne_of_none e h)]; exact e, fun _ q => .inl q⟩
theorem RS.new {φ : List Addr} {S : List O} {H : Hp} (r : RS g cl φ S H) {p : Addr} {o : HO} (h : H p = none) : RS g cl φ S (upd H p o) :=
  ⟨r.len, r.nd, fun n a ob h1 h2 => by
    have q := r.ob n a ob h1 h2
    have hp : a ≠ p := fun e => r.free h (e ▸ List.mem_of_getElem? h1)
    rw [upd_ne hp]
    exact q.mono (Grow.new h)⟩
/-- an object outside of the numbered ones changes its description: a lock -/
theorem RS.lock {φ : List Addr} {S : List O} {H : Hp} (r : RS g cl φ S H) {p : Addr} {o : HO} (hp : p ∉ φ) (e : Grow φ H φ (upd H p o)) : RS g cl φ S (upd H p o) :=
  ⟨r.len, r.nd, fun n a ob h1 h2 => by
    have q := r.ob n a ob h1 h2
    have ha : a ≠ p := fun e => hp (e ▸ List.mem_of_getElem? h1)
    rw [upd_ne ha]
    exact q.mono e⟩
theorem Grow.mut {φ : List Addr} {H : Hp} {p : Addr} {o u : HO} (h : H p = some u) (c : Chg u) (m : p ∈ φ) : Grow φ H φ (upd H p o) :=
  ⟨⟨List.prefix_refl _, fun b xs e => by rw [upd_ne (ne_of e h (by intro z; subst z; exact c))]; exact e, fun b ob u' e => by rw [upd_ne (ne_of e h (by intro z; subst z; exact c))]; exact e⟩,
    fun b ob e n => by rw [upd_ne (show b ≠ p from fun z => n (by rw [z]; exact m))]; exact e, fun _ q => .inl q⟩
/-- a new changing object -/
theorem RS.push {φ : List Addr} {S : List O} {H : Hp} (r : RS g cl φ S H) {p : Addr} {o : O} {u : HO} (h : H p = none) (ro : RepO g cl (φ ++ [p]) (upd H p u) p o (some u)) : Grow φ H (φ ++ [p]) (upd H p u) ∧ RS g cl (φ ++ [p]) (S ++ [o]) (upd H p u) := by
  have gr : Grow φ H (φ ++ [p]) (upd H p u) := ⟨⟨List.prefix_append _ _, (Grow.new (φ := φ) h).tups, (Grow.new (φ := φ) h).frzs⟩, (Grow.new (φ := φ) h).keep, fun b q => by
    rcases List.mem_append.mp q with q | q
    · exact .inl q
    · have e : b = p := by simpa using q
      subst e; exact .inr h⟩
  refine ⟨gr, by simp [r.len], ?_, fun n a ob h1 h2 => ?_⟩
  · rw [List.nodup_append]
    refine ⟨r.nd, by simp, fun a ha b hb e => ?_⟩
    have hb : b = p := by simpa using hb
    subst e; subst hb
    exact r.free h ha
  · by_cases hn : n < φ.length
    · rw [List.getElem?_append_left hn] at h1
      rw [List.getElem?_append_left (by rw [← r.len]; exact hn)] at h2
      have q := r.ob n a ob h1 h2
      have hp : a ≠ p := fun e => r.free h (e ▸ List.mem_of_getElem? h1)
      rw [upd_ne hp]
      exact q.mono gr
    · have e : n = φ.length := by
        have := (List.getElem?_eq_some_iff.mp h1).1
        simp at this; omega
      subst e
      rw [List.getElem?_append_right (Nat.le_refl _)] at h1
      rw [r.len, List.getElem?_append_right (Nat.le_refl _)] at h2
      simp at h1 h2
      subst h1; subst h2
      rw [upd_same]
      exact ro
/-- a changing object changes -/
theorem RS.set {φ : List Addr} {S : List O} {H : Hp} (r : RS g cl φ S H) {n : Nat} {a : Addr} {o : O} {u : HO} (h : φ[n]? = some a) (ro : RepO g cl φ (upd H a u) a o (some u)) : Grow φ H φ (upd H a u) ∧ RS g cl φ (S.set n o) (upd H a u) := by
  obtain ⟨o0, u0, _, h0, r0⟩ := r.at h
  have gr : Grow φ H φ (upd H a u) := Grow.mut h0 r0.chg (List.mem_of_getElem? h)
  refine ⟨gr, by simp [r.len], r.nd, fun m b ob h1 h2 => ?_⟩
  by_cases hm : m = n
  · subst hm
    have e : b = a := by rw [h] at h1; exact (Option.some.inj h1).symm
    subst e
    have hn : m < S.length := by rw [← r.len]; exact (List.getElem?_eq_some_iff.mp h).1
    rw [List.getElem?_set_self hn] at h2
    cases h2
    rw [upd_same]; exact ro
  · rw [List.getElem?_set_ne (Ne.symm hm)] at h2
    have hb : b ≠ a := by
      rintro rfl
      obtain ⟨hm1, e1⟩ := List.getElem?_eq_some_iff.mp h1
      obtain ⟨hn1, e2⟩ := List.getElem?_eq_some_iff.mp h
      exact hm ((List.getElem_inj r.nd).mp (e1.trans e2.symm))
    rw [upd_ne hb]
    exact (r.ob m b ob h1 h2).mono gr

/-- a list made aside is locked .. -/
theorem Grow.lock {φ φ' : List Addr} {H H' : Hp} (g : Grow φ H φ' H') {p : Addr} {o : HO} (h : H p = none) : Grow φ H φ' (upd H' p o) :=
  ⟨⟨g.pre, fun b xs e => by rw [upd_ne (ne_of_none e h)]; exact g.tups b xs e, fun b ob u e => by rw [upd_ne (ne_of_none e h)]; exact g.frzs b ob u e⟩, fun b ob e n => by rw [upd_ne (ne_of_none e h)]; exact g.keep b ob e n, g.nw⟩
theorem Ext.lock {φ : List Addr} {H : Hp} {p : Addr} {xs : List V} {o : HO} (h : H p = some (.lst xs)) : Ext φ H φ (upd H p o) :=
  ⟨List.prefix_refl _, fun b ys e => by rw [upd_ne (ne_of e h (by intro z; cases z))]; exact e, fun b ob u e => by rw [upd_ne (ne_of e h (by intro z; cases z))]; exact e⟩
theorem RS.locked {φ : List Addr} {S : List O} {H : Hp} (r : RS g cl φ S H) {p : Addr} {xs : List V} {u : HO} (h : H p = some (.lst xs)) (hp : p ∉ φ) : RS g cl φ S (upd H p u) :=
  ⟨r.len, r.nd, fun n a ob h1 h2 => by
    have ha : a ≠ p := fun e => hp (e ▸ List.mem_of_getElem? h1)
    rw [upd_ne ha]
    exact (r.ob n a ob h1 h2).ext (Ext.lock h)⟩
/-- .. or gets a number -/
theorem RS.adopt {φ φ' : List Addr} {S : List O} {H H' : Hp} (g' : Grow φ H φ' H') (r : RS g cl φ' S H') {p : Addr} {o : O} {u : HO} (h0 : H p = none) (h : H' p = some u) (hp : p ∉ φ') (ro : RepO g cl (φ' ++ [p]) H' p o (some u)) :
    Grow φ H (φ' ++ [p]) H' ∧ RS g cl (φ' ++ [p]) (S ++ [o]) H' := by
  have ex : Ext φ' H' (φ' ++ [p]) H' := ⟨List.prefix_append _ _, fun _ _ e => e, fun _ _ _ e => e⟩
  refine ⟨⟨⟨g'.pre.trans ex.pre, g'.tups, g'.frzs⟩, g'.keep, fun b q => ?_⟩, by simp [r.len], ?_, fun n a ob h1 h2 => ?_⟩
  · rcases List.mem_append.mp q with q | q
    · exact g'.nw b q
    · have e : b = p := by simpa using q
      subst e; exact .inr h0
  · rw [List.nodup_append]
    refine ⟨r.nd, by simp, fun a ha b hb e => ?_⟩
    have hb : b = p := by simpa using hb
    subst e; subst hb
    exact hp ha
  · by_cases hn : n < φ'.length
    · rw [List.getElem?_append_left hn] at h1
      rw [List.getElem?_append_left (by rw [← r.len]; exact hn)] at h2
      exact (r.ob n a ob h1 h2).ext ex
    · have e : n = φ'.length := by
        have := (List.getElem?_eq_some_iff.mp h1).1
        simp at this; omega
      subst e
      rw [List.getElem?_append_right (Nat.le_refl _)] at h1
      rw [r.len, List.getElem?_append_right (Nat.le_refl _)] at h2
      simp at h1 h2
      subst h1; subst h2
      rw [h]
      exact ro

/-! ### names -/
structure RelE (g : G) (φ : List Addr) (H : Hp) (env : Env) (σ : St) : Prop where
  len : env.length = σ.length
  at_ : ∀ (i : Nat) (d : D), env[i]? = some (some d) → ∃ v, σ[i]? = some (some v) ∧ Rep g φ H v d
theorem RelE.mono {φ φ' : List Addr} {H H' : Hp} {env : Env} {σ : L2.St} (e : Grow φ H φ' H') (r : RelE g φ H env σ) : RelE g φ' H' env σ :=
  ⟨r.len, fun i d h => let ⟨v, a, b⟩ := r.at_ i d h; ⟨v, a, Rep.mono e d v b⟩⟩
theorem RelE.set {φ : List Addr} {H : Hp} {env : Env} {σ : L2.St} (r : RelE g φ H env σ) (i : Nat) {v : V} {d : D} (h : Rep g φ H v d) : RelE g φ H (env.set i (some d)) (σ.set i (some v)) := by
  refine ⟨by simp [r.len], fun j d' e => ?_⟩
  by_cases hj : j = i
  · subst hj
    by_cases hl : j < env.length
    · rw [List.getElem?_set_self hl] at e
      cases e
      exact ⟨v, by rw [List.getElem?_set_self (by rw [← r.len]; exact hl)], h⟩
    · rw [List.getElem?_eq_none (by simpa using hl)] at e; cases e
  · rw [List.getElem?_set_ne (Ne.symm hj)] at e
    obtain ⟨w, a, b⟩ := r.at_ j d' e
    exact ⟨w, by rw [List.getElem?_set_ne (Ne.symm hj)]; exact a, b⟩

/-! ### a list is locked -/
theorem inv_freeze {X : Cx} {pins : List (Addr × Obj)} {σ : L2.St} {H : Hp} {s : Shared} {p : Addr} {xs : List V} (I : Inv X pins σ H s) (h : H p = some (.lst xs)) :
    ∃ o, Inv X pins σ (upd H p (.frz o (.lst xs))) s := by
  obtain ⟨hz, its, n, rv, e⟩ := I.hok p _ h
  refine ⟨{ cls := .type "list", data := .seq its.toArray n }, I.ok, I.os, I.bare, ⟨fun b o q hn hb hx => I.base.keep b o q hn hb hx, fun b o q hn hb hx => I.base.slot b o q hn hb hx, fun b o q hn hx => ?_, fun b o q hx => I.base.there b o q hx, fun b ys q => ?_, fun b o u q => ?_, fun b ps q => ?_⟩, I.loc, I.cell, ?_, fun x c q => ?_, fun q hq => ?_, fun b u q => ?_, I.len⟩
  · have z := I.base.free b o q hn hx
    rw [upd_ne (ne_of_none h z).symm]; exact z
  · have z := I.base.tups b ys q
    rw [upd_ne (ne_of z h (by intro e; cases e))]; exact z
  · have z := I.base.frzs b o u q
    rw [upd_ne (ne_of z h (by intro e; cases e))]; exact z
  · obtain ⟨more, z⟩ := I.base.tbls b ps q
    exact ⟨more, by rw [upd_ne (ne_of z h (by intro e; cases e))]; exact z⟩
  · rw [upd_ne (ne_of_none h I.free).symm]; exact I.free
  · rw [upd_ne (ne_of_none h (I.freeC x c q)).symm]; exact I.freeC x c q
  · obtain ⟨a1, a2, a3⟩ := I.pin q hq
    exact ⟨a1, by rw [upd_ne (ne_of_none h a2).symm]; exact a2, a3⟩
  · by_cases hb : b = p
    · subst hb
      rw [upd_same] at q; cases q
      exact ⟨e, hz, its, n, rv, e⟩
    · rw [upd_ne hb] at q
      refine (I.hok b u q).stay (fun c w _ z => z) (fun c z => ?_) (fun c ys z => ?_)
      · rw [upd_ne (ne_of z h (by intro e; cases e))]; exact z
      · rw [upd_ne (ne_of z h (by intro e; cases e))]; exact z
end Rx

set_option Elab.async false
set_option autoImplicit false
set_option linter.all false
set_option maxRecDepth 100000
/-! Rx5: the operators on values. -/
namespace Rx
open PySem PySem.Spec PyProof.Rows L2

section
variable {g : G} {φ : List Addr} {H : Hp}
theorem Rep.int_inv {v : V} {i : Int} (h : Rep g φ H v (.int i)) : v = .int i := by cases h; rfl
theorem Rep.str_inv {v : V} {i : Str} (h : Rep g φ H v (.str i)) : v = .str i := by cases h; rfl
theorem Rep.bl_inv {v : V} {i : Bool} (h : Rep g φ H v (.bl i)) : v = .bl i := by cases h; rfl
theorem Rep.non_inv {v : V} (h : Rep g φ H v .non) : v = .non := by cases h; rfl
/-- a list that is read, locked or not -/
def LX (H : Hp) (a : Addr) (xs : List V) : Prop := H a = some (.lst xs) ∨ ∃ o, H a = some (.frz o (.lst xs))
theorem LX.sq {K : PySem.W.Frag} {a : Addr} {xs : List V} (h : LX H a xs) : SqL K H a xs := by
  rcases h with h | ⟨o, h⟩
  · exact .inl (.inl h)
  · exact .inl (.inr ⟨o, h⟩)
theorem LX.obj {X : Cx} {pins : List (Addr × Obj)} {σ : L2.St} {s : Shared} {a : Addr} {xs : List V} (I : Inv X pins σ H s) (h : LX H a xs) :
    xs.length ≤ sizeLine ∧ ∃ (its : List Value) (n : Nat), Vals xs its ∧ xs.length = its.length ∧ s.heap.get? a = some { cls := .type "list", data := .seq its.toArray n } := by
  rcases h with h | ⟨o, h⟩
  · obtain ⟨z, its, n, r, e⟩ := I.hok a _ h
    exact ⟨z, its, n, r, r.length, e⟩
  · obtain ⟨_, z, its, n, r, e⟩ := I.hok a _ h
    exact ⟨z, its, n, r, r.length, e⟩
theorem lst_inv {cl : Nat → Addr} {S : List O} {v : V} {d : D} {ds : List D} (rs : RS g cl φ S H) (r : Rep g φ H v d) (h : lstOf S d = some ds) : ∃ a xs, v = .ref a ∧ LX H a xs ∧ RepL g φ H xs ds := by
  cases d with
  | lst l =>
    simp only [lstOf, Option.some.injEq] at h
    subst h
    cases r with
    | lst h1 h2 => exact ⟨_, _, rfl, .inr h1, h2⟩
  | ref n =>
    cases r with
    | @ref a _ h1 =>
      obtain ⟨o, u, e, hu, ro⟩ := rs.at h1
      simp only [lstOf, e] at h
      cases o with
      | lst l =>
        simp only [Option.some.injEq] at h
        subst h
        cases u <;> first | exact ro.elim | exact ⟨_, _, rfl, .inl hu, ro⟩
      | _ => simp at h
  | _ => simp [lstOf] at h
theorem tup_inv {v : V} {ds : List D} (r : Rep g φ H v (.tup ds)) : ∃ a xs, v = .ref a ∧ SqT g.K H a xs ∧ RepL g φ H xs ds := by
  cases r with
  | tup h1 h2 => exact ⟨_, _, rfl, h1, h2⟩
theorem seq_inv {cl : Nat → Addr} {S : List O} {v : V} {d : D} {ds : List D} (rs : RS g cl φ S H) (r : Rep g φ H v d) (h : seqOf S d = some ds) : ∃ a xs, v = .ref a ∧ (LX H a xs ∨ SqT g.K H a xs) ∧ RepL g φ H xs ds := by
  cases d with
  | tup l =>
    simp only [seqOf, Option.some.injEq] at h
    subst h
    obtain ⟨a, xs, e, h1, h2⟩ := tup_inv r
    exact ⟨a, xs, e, .inr h1, h2⟩
  | lst l => obtain ⟨a, xs, e, h1, h2⟩ := lst_inv rs r (ds := ds) h; exact ⟨a, xs, e, .inl h1, h2⟩
  | ref n => obtain ⟨a, xs, e, h1, h2⟩ := lst_inv rs r (ds := ds) h; exact ⟨a, xs, e, .inl h1, h2⟩
  | _ => simp [seqOf] at h

/-! data are data -/
mutual
theorem Rep.dp : ∀ (d : D) (v : V) (p : PyData), Rep g φ H v d → d.toP = some p → Dp g.K H v p
  | .non, v, p, r, h => by
    cases r; simp only [D.toP, Option.some.injEq] at h; subst h; exact .non
  | .bl b, v, p, r, h => by
    cases r; simp only [D.toP, Option.some.injEq] at h; subst h; exact .bl b
  | .int b, v, p, r, h => by
    cases r; simp only [D.toP, Option.some.injEq] at h; subst h; exact .int b
  | .str b, v, p, r, h => by
    cases r; simp only [D.toP, Option.some.injEq] at h; subst h; exact .str b
  | .tup l, v, p, r, h => by
    cases r with
    | tup h1 h2 =>
      simp only [D.toP, Option.map_eq_some_iff] at h
      obtain ⟨ps, e, rfl⟩ := h
      exact .tup h1 (RepL.dp l _ ps h2 e)
  | .lst l, v, p, r, h => by
    cases r with
    | lst h1 h2 =>
      simp only [D.toP, Option.map_eq_some_iff] at h
      obtain ⟨ps, e, rfl⟩ := h
      exact .lst h1.sq (RepL.dp l _ ps h2 e)
  | .ref n, v, p, r, h => by simp [D.toP] at h
  | .fn n, v, p, r, h => by simp [D.toP] at h
  | .scr n, v, p, r, h => by simp [D.toP] at h
theorem RepL.dp : ∀ (ds : List D) (vs : List V) (ps : List PyData), RepL g φ H vs ds → toPs ds = some ps → DpAll g.K H vs ps
  | [], vs, ps, r, h => by
    cases r; simp only [toPs, Option.some.injEq] at h; subst h; exact .nil
  | d :: ds, vs, ps, r, h => by
    cases r with
    | cons h1 h2 =>
      simp only [toPs] at h
      split at h
      · rename_i p r e1 e2
        cases h
        exact .cons (Rep.dp d _ p h1 e1) (RepL.dp ds _ r h2 e2)
      · cases h
end
theorem dat_inv {cl : Nat → Addr} {S : List O} {v : V} {d : D} {p : PyData} (rs : RS g cl φ S H) (r : Rep g φ H v d) (h : datOf S d = some p) : Dp g.K H v p := by
  cases d with
  | ref n =>
    simp only [datOf] at h
    split at h
    · rename_i l e
      simp only [Option.map_eq_some_iff] at h
      obtain ⟨ps, e2, rfl⟩ := h
      obtain ⟨a, xs, rfl, h1, h2⟩ := lst_inv rs r (ds := l) (by simp [lstOf, e])
      exact .lst h1.sq (RepL.dp l _ ps h2 e2)
    · cases h
  | non => exact Rep.dp _ _ _ r h
  | bl _ => exact Rep.dp _ _ _ r h
  | int _ => exact Rep.dp _ _ _ r h
  | str _ => exact Rep.dp _ _ _ r h
  | tup _ => exact Rep.dp _ _ _ r h
  | lst _ => exact Rep.dp _ _ _ r h
  | fn _ => exact Rep.dp _ _ _ r h
  | scr _ => exact Rep.dp _ _ _ r h
end

/-! ### the rules' form: values in, a value out, the store as it was -/
section
variable (g : G) (cl : Nat → Addr)
/-- what is wanted of a value -/
def Out (φ : List Addr) (S : List O) (H : Hp) (Q : VK) (d : D) : Prop := ∀ (H' : Hp) (v : V), Grow φ H φ H' → RS g cl φ S H' → Rep g φ H' v d → Q v H'
def r2 (f : List O → D → D → Option D) : R2 := fun x y H Q => ∃ φ S dx dy d, RS g cl φ S H ∧ Rep g φ H x dx ∧ Rep g φ H y dy ∧ f S dx dy = some d ∧ Out g cl φ S H Q d
end
section
variable {g : G} {cl : Nat → Addr} {X : Cx} {pins : List (Addr × Obj)} {σ : L2.St} {H : Hp} {s : Shared} {Q : VK} {φ : List Addr} {S : List O}
/-- a new list is locked -/
theorem froz {u : Value} {ds : List D} {xs : List V} (rs : RS g cl φ S H) (rx : RepL g φ H xs ds) (o : Out g cl φ S H Q (.lst ds))
    (h : EP X pins σ (fun v H' => ∃ p, H p = none ∧ v = .ref p ∧ H' = upd H p (.lst xs)) u s) : EP X pins σ Q u s := by
  obtain ⟨v, H', I, rv, p, hp, rfl, rfl⟩ := h
  obtain ⟨ob, I2⟩ := inv_freeze I upd_same
  rw [upd_upd] at I2
  have gr : Grow φ H φ (upd H p (.frz ob (.lst xs))) := Grow.new hp
  exact ⟨.ref p, _, I2, rv, o _ _ gr (rs.new hp) (.lst ⟨ob, upd_same⟩ (RepL.mono gr _ _ rx))⟩
theorem newtup {ds : List D} {xs : List V} (rs : RS g cl φ S H) (rx : RepL g φ H xs ds) (o : Out g cl φ S H Q (.tup ds)) {p : Addr} (hp : H p = none) : Q (.ref p) (upd H p (.tup xs)) := by
  have gr : Grow φ H φ (upd H p (.tup xs)) := Grow.new hp
  exact o _ _ gr (rs.new hp) (.tup (.inl (.inl upd_same)) (RepL.mono gr _ _ rx))
theorem Out.here {d : D} {v : V} (o : Out g cl φ S H Q d) (rs : RS g cl φ S H) (r : Rep g φ H v d) : Q v H := o H v (Grow.refl _ _) rs r
end

section
variable {g : G} {cl : Nat → Addr} {X : Cx}
/-- t * 1 is t -/
theorem tuple_mul1 (l : Addr) (items : Array Value) (n : Nat) (dd : Option Addr) (sl : Array (Option Value)) (u : Tok) :
    Meets (Builtin.«tuple.__mul__» ⟨[.ref l, .int 1 u], []⟩) (fun _ R s => s.heap.get? l = some { cls := .type "tuple", dict := dd, data := .seq items n, slots := sl } ∧ R (.ok (.ret (Value.ref l))) s) :=
  .of_wp fun prog w A R s h => by
    obtain ⟨hp, gg, d, tk, os⟩ := s
    obtain ⟨hl, h⟩ := h
    have f1 := AutoSeq1.idx_int
    wp_walk using wpAny_loadPart' hl
    repeat (first
      | (refine wpAny_ite_false (by decide) ?_; wp_walk using wpAny_loadPart' hl)
      | (refine wpAny_ite_true (by simp) ?_; wp_walk using wpAny_loadPart' hl))
    all_goals exact ⟨_, rfl, h⟩
end
end Rx

set_option Elab.async false
set_option autoImplicit false
set_option linter.all false
set_option maxRecDepth 100000
set_option maxHeartbeats 1000000
/-! Rx6: binary operators, comparisons. -/
namespace Rx
open PySem PySem.Spec PyProof.Rows L2
section
variable {g : G} {cl : Nat → Addr} {X : Cx}
def BOp.op : BOp → Operator
  | .add => .Add
  | .sub => .Sub
  | .mul => .Mult
  | .fdiv => .FloorDiv
  | .mod => .Mod
  | .pow => .Pow
def COp.op : COp → CmpOp
  | .eq => .Eq
  | .ne => .NotEq
  | .lt => .Lt
  | .le => .LtE
  | .gt => .Gt
  | .ge => .GtE
  | .is => .Is
  | .isnot => .IsNot
  | .in_ => .In
  | .notin => .NotIn
theorem szOk_le {n : Nat} (h : szOk n = true) : n ≤ sizeLine := by
  rw [sizeLine_eq]; exact of_decide_eq_true h

theorem ep_eq {pins : List (Addr × Obj)} {σ : L2.St} {H : Hp} {s : Shared} {Q : VK} {v : V} {u : Value} (I : Inv X pins σ H s) (r : RelV v u) (q : Q v H) : EP X pins σ Q u s := ⟨v, H, I, r, q⟩

theorem add_lst (K : X.K = g.K) {pins : List (Addr × Obj)} {σ : L2.St} {H : Hp} {s : Shared} {Q : VK} {φ : List Addr} {S : List O} {a b : V} {v u : Value} {x y : D} {ds es : List D} (I : Inv X pins σ H s) (ra : RelV a v) (rb : RelV b u) (rs : RS g cl φ S H)
    (rx : Rep g φ H a x) (ry : Rep g φ H b y) (hx : lstOf S x = some ds) (hy : lstOf S y = some es) (hz : szOk (ds.length + es.length) = true) (o : Out g cl φ S H Q (.lst (ds ++ es))) :
    wpAny (model X.prog X.w) X.A (binaryOp .Add v u) (EP X pins σ Q) X.xe s := by
  obtain ⟨p, xs, rfl, l1, k1⟩ := lst_inv rs rx hx
  obtain ⟨q, ys, rfl, l2, k2⟩ := lst_inv rs ry hy
  cases ra; cases rb
  obtain ⟨z1, i1, n1, r1, e1, g1⟩ := l1.obj I
  obtain ⟨z2, i2, n2, r2, e2, g2⟩ := l2.obj I
  have hz' := szOk_le hz
  rw [← k1.length, ← k2.length] at hz'
  refine thn (PySem.P.add_list (Q := EP X pins σ fun v H' => ∃ p, H p = none ∧ v = .ref p ∧ H' = upd H p (.lst (xs ++ ys))) g1 g2 ?_ (by rw [List.size_toArray, List.size_toArray]; omega)) fun w s' h => froz rs (k1.append k2) o h
  have ea : i1.toArray ++ i2.toArray = (i1 ++ i2).toArray := by simp
  rw [ea]
  exact ⟨.ref _, _, I.lnew (t' := s.toks) (r1.append r2) (by rw [List.length_append]; omega), rfl, _, I.fresh, rfl, rfl⟩
theorem mul_lst {pins : List (Addr × Obj)} {σ : L2.St} {H : Hp} {s : Shared} {Q : VK} {φ : List Addr} {S : List O} {a : V} {v : Value} {x : D} {k : Int} {t : Tok} {ds : List D} (I : Inv X pins σ H s) (ra : RelV a v) (rs : RS g cl φ S H)
    (rx : Rep g φ H a x) (hx : lstOf S x = some ds) (h1 : -9223372036854775808 ≤ k) (h2 : k < 9223372036854775808) (hz : szOk (ds.length * k.toNat) = true) (o : Out g cl φ S H Q (.lst (List.replicate k.toNat ds).flatten)) :
    wpAny (model X.prog X.w) X.A (binaryOp .Mult v (.int k t)) (EP X pins σ Q) X.xe s := by
  obtain ⟨l, xs, rfl, l1, k1⟩ := lst_inv rs rx hx
  cases ra
  obtain ⟨z, its, n, r, hl, e⟩ := l1.obj I
  have hz' := szOk_le hz
  rw [← k1.length] at hz'
  have hlen : its.toArray.size * k.toNat ≤ sizeLine := by rw [List.size_toArray, ← hl]; exact hz'
  have hcap : ¬ its.toArray.size * k.toNat > (2 ^ 63 - 1) / 8 := by
    rw [sizeLine_eq] at hlen
    have : (16777216 : Nat) ≤ (2 ^ 63 - 1) / 8 := by decide
    omega
  have hfit : ¬ (!Builtin.List.listFitsIndex k) = true := by rw [fitsIndex_both h1 h2]; simp
  have hlong : ¬ Builtin.List.listTooLong (its.toArray.size * k.toNat) = true := by rw [notLongL hlen]; simp
  have f0 : ∀ m : Nat, List.foldl (fun x1 x2 => x1 ++ x2) #[] (List.replicate m its.toArray) = (List.replicate m its).flatten.toArray := size_rep its
  have hnew : List.foldl (fun x1 x2 => x1 ++ x2) #[] (List.replicate (if its.toArray.isEmpty = true then 0 else k.toNat) its.toArray) = (List.replicate k.toNat its).flatten.toArray := by
    rw [f0]
    cases its with
    | nil => simp
    | cons a r' => rw [if_neg (by simp)]
  have rep : ∀ m : Nat, RepL g φ H (List.replicate m xs).flatten (List.replicate m ds).flatten := fun m => by
    induction m with
    | zero => exact .nil
    | succ m ih => rw [List.replicate_succ, List.replicate_succ, List.flatten_cons, List.flatten_cons]; exact k1.append ih
  refine thn (wpAny_binaryOp_repeat_ref (T := "list") (U := "int") (Q := EP X pins σ fun v H' => ∃ p, H p = none ∧ v = .ref p ∧ H' = upd H p (.lst (List.replicate k.toNat xs).flatten)) (by decide) ⟨_, e, rfl⟩ (fun s' => typeIs_int s' k t)
    noFill_list_mul F.fills_int_mul F.slot_int_rmul repeat_list F.slot_int_index.lookup
    (call_meets F.slot_int_rmul (typeIs_int s k t) F.entry_int_rmul (F.args_int_rmul_2 _ _) (int___rmul___int_list k t l its.toArray n)
      ⟨e, rfl, ⟨_, e, rfl⟩, call_meets F.slot_list_mul ⟨_, e, rfl⟩ F.entry_list_mul (F.args_list_mul_2 _ _) (AutoListH.list___mul___list_int_3 l its.toArray n k t hfit hcap hlong) ⟨e, ?_⟩⟩)) fun w s' h => froz rs (rep _) o h
  rw [hnew]
  exact ⟨.ref _, _, I.lnew (t' := s.toks) (r.rep k.toNat) (by rw [PyProof.Rows.lm_len_rep_flat, Nat.mul_comm]; exact hz'), rfl, _, I.fresh, rfl, rfl⟩
theorem mul_tup1 {pins : List (Addr × Obj)} {σ : L2.St} {H : Hp} {s : Shared} {Q : VK} {φ : List Addr} {S : List O} {a : V} {v : Value} {t : Tok} {ds : List D} (K : X.K = g.K) (I : Inv X pins σ H s) (ra : RelV a v) (rs : RS g cl φ S H)
    (rx : Rep g φ H a (.tup ds)) (o : Out g cl φ S H Q (.tup ds)) : wpAny (model X.prog X.w) X.A (binaryOp .Mult v (.int 1 t)) (EP X pins σ Q) X.xe s := by
  obtain ⟨l, xs, rfl, l1, k1⟩ := tup_inv rx
  cases ra
  rw [← K] at l1
  obtain ⟨its, r, ⟨⟨cls, dd, data, sl⟩, ho, hc, n, hd⟩, hs⟩ := I.tuple l1
  simp only at hc hd
  subst hc hd
  exact wpAny_binaryOp_repeat_ref (T := "tuple") (U := "int") (by decide) ⟨_, ho, rfl⟩ (fun s' => typeIs_int s' 1 t) noFill_tuple_mul F.fills_int_mul F.slot_int_rmul repeat_tuple F.slot_int_index.lookup
    (call_meets F.slot_int_rmul (typeIs_int s 1 t) F.entry_int_rmul (F.args_int_rmul_2 _ _) (int_rmul_tuple 1 t l its.toArray n dd sl)
      ⟨ho, rfl, ⟨_, ho, rfl⟩, call_meets F.slot_tuple_mul ⟨_, ho, rfl⟩ F.entry_tuple_mul (F.args_tuple_mul_2 _ _) (tuple_mul1 l its.toArray n dd sl t) ⟨ho, ep_eq (v := .ref l) I rfl (o.here rs rx)⟩⟩)

theorem op_bin (K : X.K = g.K) (op : BOp) : OpR X (binaryOp op.op) (Rx.r2 g cl fun S => binD S op) := by
  intro pins s σ H x y v u Q I rx ry h
  obtain ⟨φ, S, dx, dy, d, rs, px, py, e, o⟩ := h
  have arith : ∀ {i j : Int} {r : R2}, OpR X (binaryOp op.op) r → dx = .int i → dy = .int j → r (.int i) (.int j) H Q → wpAny (model X.prog X.w) X.A (binaryOp op.op v u) (EP X pins σ Q) X.xe s := fun {i j r} hr e1 e2 h => by
    subst e1 e2
    cases px.int_inv; cases py.int_inv
    exact hr pins s σ H _ _ v u Q I rx ry h
  have res : ∀ {i : Int}, d = .int i → Q (.int i) H := fun {i} e => by subst e; exact o.here rs (.int i)
  have lsts : (match lstOf S dx, lstOf S dy with
      | some x, some y => if szOk (x.length + y.length) then some (.lst (x ++ y)) else none
      | _, _ => (none : Option D)) = some d → wpAny (model X.prog X.w) X.A (binaryOp .Add v u) (EP X pins σ Q) X.xe s := fun e => by
    split at e
    · rename_i ds es h1 h2
      split at e
      · rename_i hz
        cases e
        exact add_lst K I rx ry rs px py h1 h2 hz o
      · cases e
    · cases e
  have lmul : ∀ {k : Int}, dy = .int k → (match lstOf S dx with
      | some x => if -9223372036854775808 ≤ k ∧ k < 9223372036854775808 ∧ szOk (x.length * k.toNat) then some (.lst (List.replicate k.toNat x).flatten) else none
      | none => (none : Option D)) = some d → wpAny (model X.prog X.w) X.A (binaryOp .Mult v u) (EP X pins σ Q) X.xe s := fun {k} ek e' => by
    clear e
    subst ek
    split at e'
    · rename_i ds h1
      split at e'
      · rename_i hz
        cases e'
        cases py.int_inv
        obtain ⟨t, rfl⟩ := ry
        exact mul_lst I rx rs px h1 hz.1 hz.2.1 hz.2.2 o
      · cases e'
    · cases e'
  cases op with
  | add =>
    cases dx with
    | int i =>
      cases dy with
      | int j => simp only [binD, Option.some.injEq] at e; exact arith op_add rfl rfl ⟨i, j, rfl, rfl, res e.symm⟩
      | _ => exact lsts e
    | str x =>
      cases dy with
      | str y =>
        simp only [binD] at e
        split at e
        · rename_i hz
          cases e
          cases px.str_inv; cases py.str_inv
          exact op_add_str pins s σ H _ _ v u Q I rx ry ⟨x, y, rfl, rfl, szOk_le hz, o.here rs (.str _)⟩
        · cases e
      | _ => exact lsts e
    | tup ds =>
      cases dy with
      | tup es =>
        simp only [binD] at e
        split at e
        · rename_i hz
          cases e
          obtain ⟨a, xs, rfl, h1, k1⟩ := tup_inv px
          obtain ⟨b, ys, rfl, h2, k2⟩ := tup_inv py
          rw [← K] at h1 h2
          have hz' := szOk_le hz
          rw [← k1.length, ← k2.length] at hz'
          refine op_catA pins s σ H _ _ v u Q I rx ry ⟨a, b, xs, ys, rfl, rfl, h1, h2, hz', fun hx => ?_, fun hx hy => ?_, fun hx hy p hp => ?_⟩
          · subst hx
            cases ds with
            | nil => exact o.here rs py
            | cons _ _ => have := k1.length; simp at this
          · subst hy
            cases es with
            | nil => exact o.here rs (by rw [List.append_nil]; exact px)
            | cons _ _ => have := k2.length; simp at this
          · exact newtup rs (k1.append k2) o hp
        · cases e
      | _ => exact lsts e
    | lst ds => exact lsts (by cases dy <;> exact e)
    | ref n => exact lsts (by cases dy <;> exact e)
    | _ => exact lsts (by cases dy <;> exact e)
  | sub =>
    cases dx <;> cases dy <;> simp only [binD, reduceCtorEq, Option.some.injEq] at e
    exact arith op_sub rfl rfl ⟨_, _, rfl, rfl, res e.symm⟩
  | fdiv =>
    cases dx <;> cases dy <;> simp only [binD, reduceCtorEq] at e
    split at e
    · rename_i hc
      cases e
      exact arith op_fdiv rfl rfl ⟨_, _, rfl, rfl, hc, res rfl⟩
    · cases e
  | mod =>
    cases dx <;> cases dy <;> simp only [binD, reduceCtorEq] at e
    split at e
    · rename_i hc
      cases e
      exact arith op_mod rfl rfl ⟨_, _, rfl, rfl, hc, res rfl⟩
    · cases e
  | pow =>
    cases dx <;> cases dy <;> simp only [binD, reduceCtorEq] at e
    split at e
    · rename_i hc
      cases e
      exact arith op_pow rfl rfl ⟨_, _, rfl, rfl, hc, res rfl⟩
    · cases e
  | mul =>
    cases dy with
    | int k =>
      cases dx with
      | int i =>
        simp only [binD] at e
        split at e
        · rename_i hc
          cases e
          refine arith op_mul rfl rfl ⟨_, _, rfl, rfl, ?_, res rfl⟩
          simpa [mulOk, CMul] using hc
        · cases e
      | tup ds =>
        simp only [binD] at e
        split at e
        · rename_i hk
          cases e
          subst hk
          cases py.int_inv
          obtain ⟨t, rfl⟩ := ry
          exact mul_tup1 K I rx rs px o
        · split at e
          · rename_i hk
            cases e
            obtain ⟨a, xs, rfl, h1, k1⟩ := tup_inv px
            cases py.int_inv
            rw [← K] at h1
            have rep : ∀ m : Nat, RepL g φ H (List.replicate m xs).flatten (List.replicate m ds).flatten := fun m => by
              induction m with
              | zero => exact .nil
              | succ m ih => rw [List.replicate_succ, List.replicate_succ, List.flatten_cons, List.flatten_cons]; exact k1.append ih
            refine op_repT pins s σ H _ _ v u Q I rx ry ⟨a, k, xs, rfl, rfl, h1, fun z => ?_, hk.1, hk.2.1, by rw [k1.length]; exact hk.2.2.1, fun p hp => newtup rs (rep _) o hp⟩
            subst z
            have := k1.length
            cases ds with
            | nil => simp at hk
            | cons _ _ => simp at this
          · cases e
      | _ => exact lmul rfl e
    | _ => cases dx <;> simp [binD] at e
end
end Rx

set_option Elab.async false
set_option autoImplicit false
set_option linter.all false
set_option maxRecDepth 100000
set_option maxHeartbeats 1000000
/-! Rx7: comparisons. -/
namespace Rx
open PySem PySem.Spec PyProof.Rows L2
theorem shp_atom {p : PyData} (h : p.canLay0 = true) (h2 : p.depth = 0) : shp p = true := by
  unfold shp SeqAt.shaped
  rw [h, h2]; rfl
theorem eqD_inv {S : List O} {a b : D} {k : Bool} (h : eqD S a b = some k) : ∃ p q, datOf S a = some p ∧ datOf S b = some q ∧ shp p = true ∧ shp q = true ∧ k = PyData.eqv p q := by
  have gen : (match datOf S a, datOf S b with
      | some p, some q => if shp p && shp q then some (PyData.eqv p q) else none
      | _, _ => (none : Option Bool)) = some k → ∃ p q, datOf S a = some p ∧ datOf S b = some q ∧ shp p = true ∧ shp q = true ∧ k = PyData.eqv p q := fun e => by
    split at e
    · rename_i p q h1 h2
      split at e
      · rename_i hc
        rw [Bool.and_eq_true] at hc
        cases e
        exact ⟨p, q, h1, h2, hc.1, hc.2, rfl⟩
      · cases e
    · cases e
  unfold eqD at h
  split at h
  · rename_i i j
    cases h
    exact ⟨.int i, .int j, rfl, rfl, shp_atom (by simp [PyData.canLay0]) (by simp [PyData.depth]), shp_atom (by simp [PyData.canLay0]) (by simp [PyData.depth]), by rw [PyData.eqv, Bool.beq_eq_decide_eq]⟩
  · rename_i i j
    split at h
    · rename_i hc
      rw [Bool.and_eq_true] at hc
      cases h
      exact ⟨.str i, .str j, rfl, rfl, shp_atom (by simp [PyData.canLay0, hc.1]) (by simp [PyData.depth]), shp_atom (by simp [PyData.canLay0, hc.2]) (by simp [PyData.depth]), by rw [PyData.eqv, Bool.beq_eq_decide_eq]⟩
    · cases h
  · rename_i i j
    cases h
    exact ⟨.bool i, .bool j, rfl, rfl, shp_atom (by simp [PyData.canLay0]) (by simp [PyData.depth]), shp_atom (by simp [PyData.canLay0]) (by simp [PyData.depth]), by rw [PyData.eqv]⟩
  · exact gen h
theorem shp_depth {p : PyData} (h : shp p = true) : p.depth ≤ 64 := by
  unfold shp SeqAt.shaped at h
  rw [Bool.and_eq_true] at h
  exact of_decide_eq_true h.2
theorem ltD_inv {S : List O} {a b : D} {k : Bool} (h : ltD S a b = some k) : ∃ p q, datOf S a = some p ∧ datOf S b = some q ∧ p.depth ≤ 64 ∧ PySem.W.alike p q = true ∧ p ≠ .none ∧ k = PySem.W.dataLt p q := by
  unfold ltD at h
  split at h
  · rename_i i j
    cases h
    exact ⟨.int i, .int j, rfl, rfl, by simp [PyData.depth], by simp [PySem.W.alike], by simp, (PySem.W.dataLt_int i j).symm⟩
  · split at h
    · rename_i p q h1 h2
      split at h
      · rename_i hc
        simp only [Bool.and_eq_true] at hc
        have e := Option.some.inj h
        refine ⟨p, q, h1, h2, shp_depth hc.1.1.2, hc.1.1.1, ?_, e.symm⟩
        rintro rfl
        simp [isNo] at hc
      · cases h
    · cases h
def datsOf (S : List O) : List D → Option (List PyData)
  | [] => some []
  | d :: l => match datOf S d, datsOf S l with
    | some p, some r => some (p :: r)
    | _, _ => none
theorem anyD_inv {S : List O} {x : D} {p : PyData} (hp : datOf S x = some p) : ∀ {l : List D} {k : Bool}, anyD S x l = some k → ∃ ps, datsOf S l = some ps ∧ PyData.canLayAll0 ps = true ∧ k = ps.any fun z => PyData.eqv z p
  | [], k, h => by
    simp only [anyD, Option.some.injEq] at h
    subst h
    exact ⟨[], rfl, by simp [PyData.canLayAll0], rfl⟩
  | y :: l, k, h => by
    simp only [anyD] at h
    split at h
    · rename_i b c h1 h2
      cases h
      obtain ⟨q, p', e1, e2, s1, s2, rfl⟩ := eqD_inv h1
      rw [hp] at e2; cases e2
      obtain ⟨ps, e3, s3, rfl⟩ := anyD_inv hp h2
      refine ⟨q :: ps, by simp [datsOf, e1, e3], ?_, by simp⟩
      simp [PyData.canLayAll0, s3, SeqAt.canLay_of_shaped s1]
    · cases h
section
variable {g : G} {cl : Nat → Addr} {X : Cx}
theorem dats_inv {φ : List Addr} {H : Hp} {S : List O} (rs : RS g cl φ S H) : ∀ {ds : List D} {vs : List V} {ps : List PyData}, RepL g φ H vs ds → datsOf S ds = some ps → DpAll g.K H vs ps
  | [], vs, ps, r, h => by
    cases r; simp only [datsOf, Option.some.injEq] at h; subst h; exact .nil
  | d :: ds, vs, ps, r, h => by
    cases r with
    | cons h1 h2 =>
      simp only [datsOf] at h
      split at h
      · rename_i p r e1 e2
        cases h
        exact .cons (dat_inv rs h1 e1) (dats_inv rs h2 e2)
      · cases h
/-- what a membership test finds: a list's data or a tuple's -/
theorem has_inv {φ : List Addr} {H : Hp} {S : List O} {x c : D} {y : V} {k : Bool} (rs : RS g cl φ S H) (rc : Rep g φ H y c) (h : hasD S x c = some k) :
    ∃ p ps, datOf S x = some p ∧ shp p = true ∧ PyData.canLayAll0 ps = true ∧ (Dp g.K H y (.list ps) ∨ Dp g.K H y (.tuple ps)) ∧ k = ps.any fun z => PyData.eqv z p := by
  unfold hasD at h
  split at h
  · cases h
  · rename_i p hp
    split at h
    · rename_i hs
      split at h
      · rename_i n
        split at h
        · rename_i l e
          obtain ⟨ps, e3, s3, rfl⟩ := anyD_inv hp h
          obtain ⟨a, xs, rfl, h1, h2⟩ := lst_inv rs rc (ds := l) (by simp [lstOf, e])
          exact ⟨p, ps, hp, hs, s3, .inl (.lst h1.sq (dats_inv rs h2 e3)), rfl⟩
        · cases h
      · rename_i l
        obtain ⟨ps, e3, s3, rfl⟩ := anyD_inv hp h
        obtain ⟨a, xs, rfl, h1, h2⟩ := tup_inv rc
        exact ⟨p, ps, hp, hs, s3, .inr (.tup h1 (dats_inv rs h2 e3)), rfl⟩
      · rename_i l
        obtain ⟨ps, e3, s3, rfl⟩ := anyD_inv hp h
        obtain ⟨a, xs, rfl, h1, h2⟩ := lst_inv rs rc (ds := l) rfl
        exact ⟨p, ps, hp, hs, s3, .inl (.lst h1.sq (dats_inv rs h2 e3)), rfl⟩
      · cases h
    · cases h
/-- the rules' form for tests -/
def rb (g : G) (cl : Nat → Addr) (f : List O → D → D → Option Bool) : R2 := fun x y H Q => ∃ φ S dx dy k, RS g cl φ S H ∧ Rep g φ H x dx ∧ Rep g φ H y dy ∧ f S dx dy = some k ∧ Q (.bl k) H
theorem non_of {φ : List Addr} {H : Hp} {d : D} (r : Rep g φ H .non d) (h : ∀ i, d ≠ .fn i) : d = .non := by
  generalize e : V.non = v at r
  cases r <;> first | rfl | cases e | exact absurd rfl (h _)
theorem op_cmp (K : X.K = g.K) (hu : X.A.units + 200 < cLine) (op : COp) : OpR X (compareOp op.op) (rb g cl fun S => cmpD S op) := by
  intro pins s σ H x y v u Q I rx ry h
  obtain ⟨φ, S, dx, dy, k, rs, px, py, e, q⟩ := h
  have fin : ∀ {b : Bool} {s' : Shared}, Inv X pins σ H s' → k = b → EP X pins σ Q (.bool b) s' := fun I e => by subst e; exact ⟨.bl _, H, I, rfl, q⟩
  have lt : ∀ {dx dy : D} {x y : V} {v u : Value} {b : Bool}, RelV x v → RelV y u → Rep g φ H x dx → Rep g φ H y dy → ltD S dx dy = some b →
      ∃ p q as bs, Reads s.heap v p as ∧ Reads s.heap u q bs ∧ PySem.W.alike p q = true ∧ p ≠ .none ∧ X.A.units + min p.depth q.depth < cLine ∧ b = PySem.W.dataLt p q := fun {dx dy x y v u b} rx ry px py e => by
    obtain ⟨p, q, h1, h2, hd, ha, hn, rfl⟩ := ltD_inv e
    have d1 := dat_inv rs px h1
    have d2 := dat_inv rs py h2
    rw [← K] at d1 d2
    obtain ⟨as, r1⟩ := Dp.reads I p x v d1 rx
    obtain ⟨bs, r2⟩ := Dp.reads I q y u d2 ry
    exact ⟨p, q, as, bs, r1, r2, ha, hn, by omega, rfl⟩
  cases op with
  | eq =>
    obtain ⟨p, p', h1, h2, s1, s2, rfl⟩ := eqD_inv (show eqD S dx dy = some k from e)
    have d1 := dat_inv rs px h1
    have d2 := dat_inv rs py h2
    rw [← K] at d1 d2
    exact op_eqD (by omega) pins s σ H x y v u Q I rx ry ⟨p, p', d1, d2, s1, s2, q⟩
  | ne =>
    simp only [cmpD, Option.map_eq_some_iff] at e
    obtain ⟨k', e, rfl⟩ := e
    obtain ⟨p, p', h1, h2, s1, s2, rfl⟩ := eqD_inv e
    have d1 := dat_inv rs px h1
    have d2 := dat_inv rs py h2
    rw [← K] at d1 d2
    exact op_neD (by omega) pins s σ H x y v u Q I rx ry ⟨p, p', d1, d2, s1, s2, q⟩
  | lt =>
    obtain ⟨p, p', as, bs, r1, r2, ha, hn, hd, rfl⟩ := lt rx ry px py (show ltD S dx dy = some k from e)
    exact PySem.W.lt_data r1 r2 ha hn hd (fin I rfl)
  | gt =>
    obtain ⟨p, p', as, bs, r1, r2, ha, hn, hd, rfl⟩ := lt ry rx py px (show ltD S dy dx = some k from e)
    exact PySem.W.gt_data r2 r1 (by rw [PySem.W.alike_comm]; exact ha) (PySem.W.ne_none_both ha hn) (by rw [Nat.min_comm]; exact hd) (fin I rfl)
  | le =>
    simp only [cmpD, Option.map_eq_some_iff] at e
    obtain ⟨k', e, rfl⟩ := e
    obtain ⟨p, p', as, bs, r1, r2, ha, hn, hd, rfl⟩ := lt ry rx py px e
    exact PySem.W.le_data r2 r1 (by rw [PySem.W.alike_comm]; exact ha) (PySem.W.ne_none_both ha hn) (by rw [Nat.min_comm]; exact hd) (fin I rfl)
  | ge =>
    simp only [cmpD, Option.map_eq_some_iff] at e
    obtain ⟨k', e, rfl⟩ := e
    obtain ⟨p, p', as, bs, r1, r2, ha, hn, hd, rfl⟩ := lt rx ry px py e
    exact PySem.W.ge_data r1 r2 ha hn hd (fin I rfl)
  | is =>
    have non : dy = .non → (x = .non ↔ dx = .non) → isD dx dy = some k → wpAny (model X.prog X.w) X.A (compareOp .Is v u) (EP X pins σ Q) X.xe s := fun ey hx e => by
      subst ey
      cases py.non_inv
      refine op_isN pins s σ H _ _ v u Q I rx ry ⟨rfl, ?_⟩
      have : k = decide (x = .non) := by
        have z := hx
        cases dx <;> simp [isD] at e <;> subst e <;> simp_all
      rw [← this]; exact q
    replace e : isD dx dy = some k := e
    cases dy with
    | non =>
      refine non rfl ⟨fun z => ?_, fun z => ?_⟩ e
      · subst z; exact non_of px (by intro i z; subst z; simp [isD] at e)
      · subst z; exact px.non_inv
    | bl b =>
      cases dx <;> simp [isD] at e
      subst e
      cases px.bl_inv; cases py.bl_inv
      exact op_isBl pins s σ H _ _ v u Q I rx ry ⟨_, _, rfl, rfl, by rw [← Bool.beq_eq_decide_eq]; exact q⟩
    | _ => cases dx <;> simp [isD] at e
  | isnot =>
    replace e : (isD dx dy).map (!·) = some k := e
    simp only [Option.map_eq_some_iff] at e
    obtain ⟨k', e, rfl⟩ := e
    cases dy with
    | non =>
      cases py.non_inv
      refine op_notN pins s σ H _ _ v u Q I rx ry ⟨rfl, ?_⟩
      have : k' = decide (x = .non) := by
        have z : x = .non ↔ dx = .non := ⟨fun z => by subst z; exact non_of px (by intro i z; subst z; simp [isD] at e), fun z => by subst z; exact px.non_inv⟩
        cases dx <;> simp [isD] at e <;> subst e <;> simp_all
      rw [← this]; exact q
    | bl b =>
      cases dx <;> simp [isD] at e
      subst e
      cases px.bl_inv; cases py.bl_inv
      exact op_notBl pins s σ H _ _ v u Q I rx ry ⟨_, _, rfl, rfl, by rw [← Bool.beq_eq_decide_eq]; exact q⟩
    | _ => cases dx <;> simp [isD] at e
  | in_ =>
    obtain ⟨p, ps, h1, s1, s2, hc, rfl⟩ := has_inv rs py (show hasD S dx dy = some k from e)
    have d1 := dat_inv rs px h1
    rw [← K] at d1 hc
    obtain ⟨as, r1⟩ := Dp.reads I p x v d1 rx
    rcases hc with hc | hc
    · obtain ⟨bs, r2⟩ := Dp.reads I _ y u hc ry
      exact SeqAt.in_list_reads r2 r1 s2 (SeqAt.canLay_of_shaped s1) (room_in_shaped s1 (by omega)) (fin I rfl)
    · obtain ⟨bs, r2⟩ := Dp.reads I _ y u hc ry
      exact SeqAt.in_tuple_reads r2 r1 s2 (SeqAt.canLay_of_shaped s1) (room_in_shaped s1 (by omega)) (fin I rfl)
  | notin =>
    replace e : (hasD S dx dy).map (!·) = some k := e
    simp only [Option.map_eq_some_iff] at e
    obtain ⟨k', e, rfl⟩ := e
    obtain ⟨p, ps, h1, s1, s2, hc, rfl⟩ := has_inv rs py e
    have d1 := dat_inv rs px h1
    rw [← K] at d1 hc
    obtain ⟨as, r1⟩ := Dp.reads I p x v d1 rx
    rcases hc with hc | hc
    · obtain ⟨bs, r2⟩ := Dp.reads I _ y u hc ry
      exact SeqAt.notIn_list_reads r2 r1 s2 (SeqAt.canLay_of_shaped s1) (room_in_shaped s1 (by omega)) (fin I rfl)
    · obtain ⟨bs, r2⟩ := Dp.reads I _ y u hc ry
      exact SeqAt.notIn_tuple_reads r2 r1 s2 (SeqAt.canLay_of_shaped s1) (room_in_shaped s1 (by omega)) (fin I rfl)
end
end Rx

set_option Elab.async false
set_option autoImplicit false
set_option linter.all false
set_option maxRecDepth 100000
set_option maxHeartbeats 1000000
/-! Rx8: subscripts, truth, built-ins by values. -/
namespace Rx
open PySem PySem.Spec PyProof.Rows L2
section
variable {g : G} {cl : Nat → Addr} {X : Cx}
theorem atI_rep {φ : List Addr} {H : Hp} {xs : List V} {ds : List D} {i : Int} {d : D} (r : RepL g φ H xs ds) (h : atI ds i = some d) : ∃ v, atI xs i = some v ∧ Rep g φ H v d := by
  unfold atI at h ⊢
  rw [r.length]
  cases e : ixN ds.length i with
  | none => rw [e] at h; cases h
  | some j =>
    rw [e] at h
    exact r.get h
theorem ix_all (K : X.K = g.K) : IxR X (Rx.r2 g cl fun S x y => idxD S x y) := by
  intro value slice pins s σ H x y v u Q I rx ry h hs
  obtain ⟨φ, S, dx, dy, d, rs, px, py, e, o⟩ := h
  cases dy with
  | int i =>
    simp only [idxD, Option.bind_eq_some_iff] at e
    obtain ⟨ds, e1, e2⟩ := e
    obtain ⟨a, xs, rfl, hl, k⟩ := seq_inv rs px e1
    obtain ⟨z, e3, rz⟩ := atI_rep k e2
    cases py.int_inv
    rcases hl with hl | hl
    · exact ix_list value slice pins s σ H _ _ v u Q I rx ry ⟨a, xs, i, z, rfl, rfl, hl.sq, e3, o.here rs rz⟩ hs
    · rw [← K] at hl
      exact ix_tup value slice pins s σ H _ _ v u Q I rx ry ⟨a, xs, i, z, rfl, rfl, hl, e3, o.here rs rz⟩ hs
  | _ => simp [idxD] at e
theorem cut_rep {φ : List Addr} {H : Hp} {xs : List V} {ds : List D} {lo hi : Option Int} (r : RepL g φ H xs ds) : RepL g φ H (cutV xs lo hi) (cutD ds lo hi) := by
  unfold cutV cutD
  rw [r.length]
  exact (r.drop _).take _
def rsl (g : G) (cl : Nat → Addr) : V → Option Int → Option Int → Hp → VK → Prop := fun x lo hi H Q => ∃ φ S dx d, RS g cl φ S H ∧ Rep g φ H x dx ∧ sliD S dx lo hi = some d ∧ Out g cl φ S H Q d
theorem sl_all (K : X.K = g.K) : SlR X (rsl g cl) := by
  intro pins s σ H x v vl vu lo hi sl Q I rx hs pl pu h
  obtain ⟨φ, S, dx, d, rs, px, e, o⟩ := h
  have lists : ∀ {a : Addr} {xs : List V} {ds : List D}, x = .ref a → SqL X.K H a xs → RepL g φ H xs ds → d = .lst (cutD ds lo hi) →
      ∃ T id, typeLookup (.type T) "__getitem__" = pure (some (.builtin id)) ∧ s.TypeIs v T ∧ wpAny (model X.prog X.w) X.A (getItem v (.ref sl)) (EP X pins σ Q) X.xe s := fun {a xs ds} e hq k ed => by
    subst e ed
    obtain ⟨T, id, h1, h2, h3⟩ := sl_list pins s σ H _ v vl vu lo hi sl (fun v H' => ∃ p, H p = none ∧ v = .ref p ∧ H' = upd H p (.lst (cutV xs lo hi))) I rx hs pl pu ⟨a, xs, rfl, hq, fun p hp => ⟨p, hp, rfl, rfl⟩⟩
    exact ⟨T, id, h1, h2, thn h3 fun w s' h => froz rs (cut_rep k) o h⟩
  cases dx with
  | tup ds =>
    simp only [sliD, Option.some.injEq] at e
    subst e
    obtain ⟨a, xs, rfl, hq, k⟩ := tup_inv px
    rw [← K] at hq
    refine sl_tupA pins s σ H _ v vl vu lo hi sl Q I rx hs pl pu ⟨a, xs, rfl, hq, fun hw => ?_, fun hw p hp => newtup rs (cut_rep k) o hp⟩
    have : cutD ds lo hi = ds := by
      unfold cutD
      rw [← k.length, hw.1, hw.2]
      simp [k.length]
    rw [this] at o
    exact o.here rs px
  | scr ds =>
    simp only [sliD, Option.some.injEq] at e
    cases px with
    | scr h1 h2 =>
      rw [← K] at h1
      exact lists rfl h1.sq h2 e.symm
  | lst ds =>
    simp only [sliD, lstOf, Option.map_some, Option.some.injEq] at e
    obtain ⟨a, xs, e1, hl, k⟩ := lst_inv rs px (ds := ds) rfl
    exact lists e1 hl.sq k e.symm
  | ref n =>
    simp only [sliD, Option.map_eq_some_iff] at e
    obtain ⟨ds, e1, e2⟩ := e
    obtain ⟨a, xs, e3, hl, k⟩ := lst_inv rs px e1
    exact lists e3 hl.sq k e2.symm
  | _ => simp [sliD, lstOf] at e
theorem tru_all (K : X.K = g.K) : TruR X (fun x H Q => ∃ φ S d k, RS g cl φ S H ∧ Rep g φ H x d ∧ truD S d = some k ∧ Q k H) := by
  intro pins s σ H x v Q I rx h
  obtain ⟨φ, S, d, k, rs, px, e, q⟩ := h
  refine tru_ok pins s σ H x v Q I rx ⟨k, ?_, q⟩
  have emp : ∀ {xs : List V} {ds : List D}, RepL g φ H xs ds → xs.isEmpty = ds.isEmpty := fun {xs ds} r => by
    have := r.length
    cases xs <;> cases ds <;> simp_all
  have lists : ∀ {ds : List D}, lstOf S d = some ds → k = !ds.isEmpty → TruV X.K x H k := fun {ds} e1 e2 => by
    obtain ⟨a, xs, e3, hl, r⟩ := lst_inv rs px e1
    subst e3
    exact .inl ⟨xs, hl.sq, by rw [emp r]; exact e2⟩
  cases d with
  | non => simp only [truD, Option.some.injEq] at e; cases px.non_inv; exact e.symm
  | bl b => simp only [truD, Option.some.injEq] at e; cases px.bl_inv; exact e.symm
  | int i => simp only [truD, Option.some.injEq] at e; cases px.int_inv; exact e.symm
  | str z =>
    simp only [truD] at e
    split at e
    · rename_i hz
      cases px.str_inv
      cases e
      exact ⟨szOk_le hz, rfl⟩
    · cases e
  | tup ds =>
    simp only [truD, Option.some.injEq] at e
    obtain ⟨a, xs, rfl, hq, r⟩ := tup_inv px
    rw [← K] at hq
    exact .inr (.inl ⟨xs, hq, by rw [emp r]; exact e.symm⟩)
  | lst ds => simp only [truD, Option.some.injEq] at e; exact lists rfl e.symm
  | ref n =>
    simp only [truD] at e
    split at e
    · rename_i l h1
      exact lists (ds := l) (by simp [lstOf, h1]) (Option.some.inj e).symm
    · cases e
  | _ => simp [truD] at e

/-! ### built-ins -/
def r1 (g : G) (cl : Nat → Addr) (f : List O → List D → Option D) : List V → Hp → VK → Prop := fun vs H Q => ∃ φ S ds d, RS g cl φ S H ∧ RepL g φ H vs ds ∧ f S ds = some d ∧ Out g cl φ S H Q d
theorem one_inv {φ : List Addr} {H : Hp} {vs : List V} {d : D} (r : RepL g φ H vs [d]) : ∃ v, vs = [v] ∧ Rep g φ H v d := by
  cases r with
  | cons h1 h2 => cases h2; exact ⟨_, rfl, h1⟩
theorem two_inv {φ : List Addr} {H : Hp} {vs : List V} {d e : D} (r : RepL g φ H vs [d, e]) : ∃ v w, vs = [v, w] ∧ Rep g φ H v d ∧ Rep g φ H w e := by
  cases r with
  | cons h1 h2 =>
    obtain ⟨w, rfl, h3⟩ := one_inv h2
    exact ⟨_, w, rfl, h1, h3⟩
theorem bools_rep {φ : List Addr} {H : Hp} : ∀ {ds : List D} {xs : List V} {bs : List Bool}, RepL g φ H xs ds → boolsD ds = some bs → xs = bs.map V.bl
  | [], xs, bs, r, h => by
    cases r; simp only [boolsD, Option.some.injEq] at h; subst h; rfl
  | d :: ds, xs, bs, r, h => by
    cases d <;> simp only [boolsD, Option.map_eq_some_iff, reduceCtorEq] at h
    obtain ⟨cs, h, rfl⟩ := h
    cases r with
    | cons h1 h2 => cases h1.bl_inv; rw [bools_rep h2 h]; rfl
theorem ints_rep {φ : List Addr} {H : Hp} : ∀ {ds : List D} {xs : List V} {bs : List Int}, RepL g φ H xs ds → intsD ds = some bs → xs = bs.map V.int
  | [], xs, bs, r, h => by
    cases r; simp only [intsD, Option.some.injEq] at h; subst h; rfl
  | d :: ds, xs, bs, r, h => by
    cases d <;> simp only [intsD, Option.map_eq_some_iff, reduceCtorEq] at h
    obtain ⟨cs, h, rfl⟩ := h
    cases r with
    | cons h1 h2 => cases h1.int_inv; rw [ints_rep h2 h]; rfl
/-- a built-in's value -/
inductive BiV : Bi → Value → Prop
  | len : BiV .len (.builtin "len")
  | tuple : BiV .tuple (.type "tuple")
  | sum : BiV .sum (.builtin "sum")
  | all : BiV .all (.builtin "all")
  | any : BiV .any (.builtin "any")
  | abs : BiV .abs (.builtin "abs")
  | int : BiV .int (.type "int")
  | min2 : BiV .min2 (.builtin "min")
  | max2 : BiV .max2 (.builtin "max")
  | repr : BiV .repr (.builtin "repr")
theorem bi_len1 {S : List O} {l : List D} {d : D} {b : Bi} (h : biD S b l = some d) (hb : b = .len ∨ b = .tuple ∨ b = .sum ∨ b = .all ∨ b = .any) : ∃ x, l = [x] := by
  match l with
  | [] => rcases hb with rfl | rfl | rfl | rfl | rfl <;> simp [biD] at h
  | [x] => exact ⟨x, rfl⟩
  | _ :: _ :: _ => rcases hb with rfl | rfl | rfl | rfl | rfl <;> simp [biD] at h
theorem cr_bi (K : X.K = g.K) (hc : X.calm = true) {b : Bi} {f : Value} (hb : BiV b f) : CallR X f (Rx.r1 g cl fun S => biD S b) := by
  intro pins s σ H vs us Q I r h
  obtain ⟨φ, S, ds, d, rs, px, e, o⟩ := h
  cases hb with
  | len =>
    obtain ⟨x, rfl⟩ := bi_len1 e (.inl rfl)
    obtain ⟨v, rfl, rx⟩ := one_inv px
    have gen : ∀ {l : List D}, seqOf S x = some l → d = .int l.length → wpAny (model X.prog X.w) X.A (call (.builtin "len") us) (EP X pins σ Q) X.xe s := fun {l} h1 h2 => by
      subst h2
      obtain ⟨a, xs, rfl, hl, k⟩ := seq_inv rs rx h1
      refine call_len_seq pins s σ H _ us Q I r ⟨a, xs, rfl, ?_, ?_⟩
      · rcases hl with hl | hl
        · exact .inl hl.sq
        · rw [K]; exact .inr hl
      · rw [k.length]; exact o.here rs (.int _)
    cases x with
    | str z =>
      simp only [biD] at e
      split at e
      · rename_i hz
        cases e
        cases rx.str_inv
        exact call_len_str pins s σ H _ us Q I r ⟨z, rfl, szOk_le hz, o.here rs (.int _)⟩
      · cases e
    | tup l => exact gen (l := l) rfl (by simpa [biD, seqOf] using e.symm)
    | lst l => exact gen (l := l) rfl (by simpa [biD, seqOf] using e.symm)
    | ref n =>
      simp only [biD, Option.map_eq_some_iff] at e
      obtain ⟨l, h1, h2⟩ := e
      exact gen h1 h2.symm
    | _ => simp [biD, seqOf] at e
  | tuple =>
    obtain ⟨x, rfl⟩ := bi_len1 e (.inr (.inl rfl))
    obtain ⟨v, rfl, rx⟩ := one_inv px
    have gen : ∀ {l : List D}, lstOf S x = some l → d = .tup l → wpAny (model X.prog X.w) X.A (call (.type "tuple") us) (EP X pins σ Q) X.xe s := fun {l} h1 h2 => by
      subst h2
      obtain ⟨a, xs, rfl, hl, k⟩ := lst_inv rs rx h1
      exact call_tuple_of pins s σ H _ us Q I r ⟨a, xs, rfl, .inl ⟨hl.sq, fun p hp => newtup rs k o hp⟩⟩
    cases x with
    | tup l =>
      simp only [biD, Option.some.injEq] at e
      subst e
      obtain ⟨a, xs, rfl, hl, k⟩ := tup_inv rx
      exact call_tuple_of pins s σ H _ us Q I r ⟨a, xs, rfl, .inr ⟨by rw [K]; exact hl, o.here rs rx⟩⟩
    | lst l => exact gen (l := l) rfl (by simpa [biD, lstOf] using e.symm)
    | ref n =>
      simp only [biD, Option.map_eq_some_iff] at e
      obtain ⟨l, h1, h2⟩ := e
      exact gen h1 h2.symm
    | _ => simp [biD, lstOf] at e
  | sum =>
    obtain ⟨x, rfl⟩ := bi_len1 e (.inr (.inr (.inl rfl)))
    obtain ⟨v, rfl, rx⟩ := one_inv px
    simp only [biD, Option.bind_eq_some_iff, Option.map_eq_some_iff] at e
    obtain ⟨l, h1, ns, h2, rfl⟩ := e
    obtain ⟨a, xs, rfl, hl, k⟩ := lst_inv rs rx h1
    rw [ints_rep k h2] at hl
    exact cr_sum hc pins s σ H _ us Q I r ⟨a, ns, rfl, hl.sq, o.here rs (.int _)⟩
  | all =>
    obtain ⟨x, rfl⟩ := bi_len1 e (.inr (.inr (.inr (.inl rfl))))
    obtain ⟨v, rfl, rx⟩ := one_inv px
    simp only [biD, Option.bind_eq_some_iff, Option.map_eq_some_iff] at e
    obtain ⟨l, h1, ns, h2, rfl⟩ := e
    obtain ⟨a, xs, rfl, hl, k⟩ := lst_inv rs rx h1
    rw [bools_rep k h2] at hl
    exact cr_all hc pins s σ H _ us Q I r ⟨a, ns, rfl, hl.sq, o.here rs (.bl _)⟩
  | any =>
    obtain ⟨x, rfl⟩ := bi_len1 e (.inr (.inr (.inr (.inr rfl))))
    obtain ⟨v, rfl, rx⟩ := one_inv px
    simp only [biD, Option.bind_eq_some_iff, Option.map_eq_some_iff] at e
    obtain ⟨l, h1, ns, h2, rfl⟩ := e
    obtain ⟨a, xs, rfl, hl, k⟩ := lst_inv rs rx h1
    rw [bools_rep k h2] at hl
    exact cr_any hc pins s σ H _ us Q I r ⟨a, ns, rfl, hl.sq, o.here rs (.bl _)⟩
  | abs =>
    match ds, e, px with
    | [.int i], e, px =>
      simp only [biD, Option.some.injEq] at e
      subst e
      obtain ⟨v, rfl, rx⟩ := one_inv px
      cases rx.int_inv
      exact call_abs pins s σ H _ us Q I r ⟨i, rfl, o.here rs (.int _)⟩
  | int =>
    match ds, e, px with
    | [.int i], e, px =>
      simp only [biD, Option.some.injEq] at e
      subst e
      obtain ⟨v, rfl, rx⟩ := one_inv px
      cases rx.int_inv
      exact call_int1 pins s σ H _ us Q I r (.inl ⟨i, rfl, o.here rs (.int _)⟩)
    | [.bl i], e, px =>
      simp only [biD, Option.some.injEq] at e
      subst e
      obtain ⟨v, rfl, rx⟩ := one_inv px
      cases rx.bl_inv
      exact call_int1 pins s σ H _ us Q I r (.inr ⟨i, rfl, o.here rs (.int _)⟩)
  | min2 =>
    match ds, e, px with
    | [.int i, .int j], e, px =>
      simp only [biD, Option.some.injEq] at e
      subst e
      obtain ⟨v, w, rfl, rx, ry⟩ := two_inv px
      cases rx.int_inv; cases ry.int_inv
      exact call_min2 hc pins s σ H _ us Q I r ⟨i, j, rfl, o.here rs (.int _)⟩
  | max2 =>
    match ds, e, px with
    | [.int i, .int j], e, px =>
      simp only [biD, Option.some.injEq] at e
      subst e
      obtain ⟨v, w, rfl, rx, ry⟩ := two_inv px
      cases rx.int_inv; cases ry.int_inv
      exact call_max2 hc pins s σ H _ us Q I r ⟨i, j, rfl, o.here rs (.int _)⟩
  | repr =>
    match ds, e, px with
    | [.bl b], e, px =>
      simp only [biD, Option.some.injEq] at e
      subst e
      obtain ⟨v, rfl, rx⟩ := one_inv px
      cases rx.bl_inv
      obtain ⟨u, rfl, ru⟩ := vals1 r
      cases ru
      exact PySem.P.repr_of_bool ⟨.str _, H, I.tok _, ⟨_, rfl⟩, o.here rs (by cases b <;> exact .str _)⟩
end
end Rx

set_option Elab.async false
set_option autoImplicit false
set_option linter.all false
set_option maxRecDepth 100000
set_option maxHeartbeats 1000000
/-! Rx9: readings by the evaluator; expressions but calls and comprehensions. -/
namespace Rx
open PySem PySem.Spec PyProof.Rows L2
structure Cfg where
  g : G
  cl : Nat → Addr
  cf : CF
  cs : Nat → Option D

theorem R.bind_ok_inv {α β : Type} {r : R α} {f : α → List O → R β} {b : β} {S' : List O} (h : r.bind f = .ok b S') : ∃ a S, r = .ok a S ∧ f a S = .ok b S' := by
  cases r with
  | ok a S => exact ⟨a, S, rfl, h⟩
  | exc c x S => cases h
  | bad => cases h
theorem R.of_inv {α : Type} {S S' : List O} {o : Option α} {a : α} (h : R.of S o = .ok a S') : o = some a ∧ S = S' := by
  cases o with
  | none => cases h
  | some b => cases h; exact ⟨rfl, rfl⟩
theorem opt_map_inv {α β : Type} {o : Option α} {f : α → β} {b : β} (h : o.map f = some b) : ∃ a, o = some a ∧ f a = b := by
  cases o with
  | none => cases h
  | some a => exact ⟨a, rfl, Option.some.inj h⟩

section
variable (c : Cfg)
abbrev Cfg.ev : X → Env → List O → R D := evE c.cf c.cs
abbrev Cfg.Rp (φ : List Addr) (H : Hp) : V → D → Prop := Rep c.g φ H
abbrev Cfg.St (φ : List Addr) (S : List O) (H : Hp) : Prop := RS c.g c.cl φ S H
/-- the reading of an expression -/
def tX (x : X) : TE := fun σ H Q => ∃ φ env S d S', RelE c.g φ H env σ ∧ RS c.g c.cl φ S H ∧ evE c.cf c.cs x env S = .ok d S' ∧
  ∀ φ' H' v, Grow φ H φ' H' → RS c.g c.cl φ' S' H' → Rep c.g φ' H' v d → Q v H'
/-- .. of several -/
def tXs (xs : List X) : TA := fun σ H Q => ∃ φ env S ds S', RelE c.g φ H env σ ∧ RS c.g c.cl φ S H ∧ evEs c.cf c.cs xs env S = .ok ds S' ∧
  ∀ φ' H' vs, Grow φ H φ' H' → RS c.g c.cl φ' S' H' → RepL c.g φ' H' vs ds → Q vs H'
/-- .. of a test -/
def tXt (x : X) : TT := fun σ H Q => ∃ φ env S d S' k, RelE c.g φ H env σ ∧ RS c.g c.cl φ S H ∧ evE c.cf c.cs x env S = .ok d S' ∧ truD S' d = some k ∧
  ∀ φ' H', Grow φ H φ' H' → RS c.g c.cl φ' S' H' → Q k H'
end
section
variable {c : Cfg} {X' : Cx} {φ : List Addr} {env : Env} {S S1 : List O} {σ : L2.St} {H : Hp}
theorem PE.imp {e : Expr} {t t' : TE} (h : PE X' e t) (i : ∀ σ H Q, t' σ H Q → t σ H Q) : PE X' e t' := ⟨fun pins s σ H Q I q => h.run pins s σ H Q I (i σ H Q q)⟩
theorem PT.imp {e : Expr} {t t' : TT} (h : PT X' e t) (i : ∀ σ H Q, t' σ H Q → t σ H Q) : PT X' e t' := ⟨fun pins s σ H Q I q => h.run pins s σ H Q I (i σ H Q q)⟩
theorem PW.imp {e : Expr} {t t' : TT} (h : PW X' e t) (i : ∀ σ H Q, t' σ H Q → t σ H Q) : PW X' e t' := ⟨fun wh pins s σ H Q I q => h.run wh pins s σ H Q I (i σ H Q q)⟩
theorem PA.imp {e : List Expr} {t t' : TA} (h : PA X' e t) (i : ∀ σ H Q, t' σ H Q → t σ H Q) : PA X' e t' := ⟨fun pos pins s σ H Q I q => h.run pos pins s σ H Q I (i σ H Q q)⟩
theorem go {x : X} {d : D} {Q : VK} (re : RelE c.g φ H env σ) (rs : RS c.g c.cl φ S H) (ev : evE c.cf c.cs x env S = .ok d S1)
    (k : ∀ φ1 H1 v, Grow φ H φ1 H1 → RS c.g c.cl φ1 S1 H1 → RelE c.g φ1 H1 env σ → Rep c.g φ1 H1 v d → Q v H1) : tX c x σ H Q :=
  ⟨φ, env, S, d, S1, re, rs, ev, fun φ' H' v g rs' r => k φ' H' v g rs' (re.mono g) r⟩
theorem gos {xs : List X} {ds : List D} {Q : List V → Hp → Prop} (re : RelE c.g φ H env σ) (rs : RS c.g c.cl φ S H) (ev : evEs c.cf c.cs xs env S = .ok ds S1)
    (k : ∀ φ1 H1 vs, Grow φ H φ1 H1 → RS c.g c.cl φ1 S1 H1 → RelE c.g φ1 H1 env σ → RepL c.g φ1 H1 vs ds → Q vs H1) : tXs c xs σ H Q :=
  ⟨φ, env, S, ds, S1, re, rs, ev, fun φ' H' v g rs' r => k φ' H' v g rs' (re.mono g) r⟩
theorem got {x : X} {d : D} {b : Bool} {Q : Bool → Hp → Prop} (re : RelE c.g φ H env σ) (rs : RS c.g c.cl φ S H) (ev : evE c.cf c.cs x env S = .ok d S1) (ht : truD S1 d = some b)
    (k : ∀ φ1 H1, Grow φ H φ1 H1 → RS c.g c.cl φ1 S1 H1 → RelE c.g φ1 H1 env σ → Q b H1) : tXt c x σ H Q :=
  ⟨φ, env, S, d, S1, b, re, rs, ev, ht, fun φ' H' g rs' => k φ' H' g rs' (re.mono g)⟩
/-- the end of a rule by values -/
theorem out_of {φ0 : List Addr} {H0 : Hp} {d : D} {Q : VK} (g : Grow φ0 H0 φ H) (k : ∀ φ' H' v, Grow φ0 H0 φ' H' → RS c.g c.cl φ' S H' → Rep c.g φ' H' v d → Q v H') : Out c.g c.cl φ S H Q d := fun H' v g' rs r => k φ H' v (g.trans g') rs r
/-- the value is here -/
theorem here_of {φ0 : List Addr} {H0 : Hp} {d : D} {v : V} {Q : VK} (g : Grow φ0 H0 φ H) (rs : RS c.g c.cl φ S H) (r : Rep c.g φ H v d) (k : ∀ φ' H' v, Grow φ0 H0 φ' H' → RS c.g c.cl φ' S H' → Rep c.g φ' H' v d → Q v H') : Q v H := k φ H v g rs r

/-! ### expressions -/
variable {e a b : Expr} {xa xb : X} {pos : Pos}
theorem snd_var {i : Nat} {x : Str} (hN : X'.N[i]? = some x) (hv : Vis X'.env.scope x) (hd : (x == ("__debug__" : Str)) = false) (hcd : (x == ("__classdict__" : Str)) = false) : PE X' (.Name x pos) (tX c (.var i)) :=
  PE.imp (pe_var hN hv hd hcd) fun σ H Q ⟨φ, env, S, d, S', re, rs, ev, k⟩ => by
    simp only [evE] at ev
    split at ev
    · rename_i d' hd'
      cases ev
      obtain ⟨v, h1, h2⟩ := re.at_ i _ hd'
      exact ⟨v, h1, k φ H v (Grow.refl _ _) rs h2⟩
    · cases ev
/-- a value that needs no heap -/
theorem snd_at {d : D} {v : V} (h : PE X' e (tC v)) (r : ∀ φ H, Rep c.g φ H v d) : PE X' e (tX c (.lit d)) :=
  PE.imp h fun σ H Q ⟨φ, env, S, d', S', re, rs, ev, k⟩ => by
    simp only [evE] at ev
    cases ev
    exact k φ H v (Grow.refl _ _) rs (r φ H)
theorem snd_con {i : Nat} {d : D} {v : V} (hi : c.cs i = some d) (h : PE X' e (tC v)) (r : ∀ φ H, Rep c.g φ H v d) : PE X' e (tX c (.con i)) :=
  PE.imp h fun σ H Q ⟨φ, env, S, d', S', re, rs, ev, k⟩ => by
    simp only [evE, hi, R.of_some] at ev
    cases ev
    exact k φ H v (Grow.refl _ _) rs (r φ H)
theorem snd_nil : PA X' [] (tXs c []) := PA.imp pa_nil fun σ H Q ⟨φ, env, S, d, S', re, rs, ev, k⟩ => by
  simp only [evEs] at ev
  cases ev
  exact k φ H [] (Grow.refl _ _) rs .nil
theorem snd_cons {es : List Expr} {x : X} {xs : List X} (ha : PE X' e (tX c x)) (hr : PA X' es (tXs c xs)) (hs : starEach (e :: es) X'.env = (false, eval e X'.env) :: starEach es X'.env) : PA X' (e :: es) (tXs c (x :: xs)) :=
  PA.imp (pa_cons ha hr hs) fun σ H Q ⟨φ, env, S, d, S', re, rs, ev, k⟩ => by
    simp only [evEs] at ev
    obtain ⟨d1, S1, e1, ev⟩ := R.bind_ok_inv ev
    obtain ⟨d2, S2, e2, ev⟩ := R.bind_ok_inv ev
    cases ev
    exact go re rs e1 fun φ1 H1 v g1 rs1 re1 r1 => gos re1 rs1 e2 fun φ2 H2 vs g2 rs2 _ r2 => k φ2 H2 _ (g1.trans g2) rs2 (.cons (Rep.mono g2 _ _ r1) r2)
theorem snd_tup {es : List Expr} {xs : List X} {x1 : Nat} (h : PA X' es (tXs c xs)) : PE X' (.Tuple es x1 pos) (tX c (.tup xs)) :=
  PE.imp (pe_tup h) fun σ H Q ⟨φ, env, S, d, S', re, rs, ev, k⟩ => by
    simp only [evE] at ev
    obtain ⟨d1, S1, e1, ev⟩ := R.bind_ok_inv ev
    split at ev
    · rename_i hz
      cases ev
      refine gos re rs e1 fun φ1 H1 vs g1 rs1 re1 r1 => ⟨by rw [r1.length]; exact szOk_le hz, fun p hp => newtup rs1 r1 (out_of g1 k) hp⟩
    · cases ev
theorem snd_bin (K : X'.K = c.g.K) {op : BOp} (ha : PE X' a (tX c xa)) (hb : PE X' b (tX c xb)) : PE X' (.BinOp a op.op b pos) (tX c (.bin op xa xb)) :=
  PE.imp (pe_op (op_bin (g := c.g) (cl := c.cl) K op) ha hb) fun σ H Q ⟨φ, env, S, d, S', re, rs, ev, k⟩ => by
    simp only [evE] at ev
    obtain ⟨d1, S1, e1, ev⟩ := R.bind_ok_inv ev
    obtain ⟨d2, S2, e2, ev⟩ := R.bind_ok_inv ev
    obtain ⟨e3, rfl⟩ := R.of_inv ev
    exact go re rs e1 fun φ1 H1 v g1 rs1 re1 r1 => go re1 rs1 e2 fun φ2 H2 w g2 rs2 re2 r2 => ⟨φ2, S2, d1, d2, d, rs2, Rep.mono g2 _ _ r1, r2, e3, out_of (g1.trans g2) k⟩
theorem snd_neg (ha : PE X' a (tX c xa)) : PE X' (.UnaryOp .USub a pos) (tX c (.neg xa)) :=
  PE.imp (pe_un un_neg ha) fun σ H Q ⟨φ, env, S, d, S', re, rs, ev, k⟩ => by
    simp only [evE] at ev
    obtain ⟨d1, S1, e1, ev⟩ := R.bind_ok_inv ev
    split at ev
    · rename_i i
      cases ev
      exact go re rs e1 fun φ1 H1 v g1 rs1 re1 r1 => ⟨i, r1.int_inv, k φ1 H1 _ g1 rs1 (.int _)⟩
    · cases ev
theorem snd_cmp (K : X'.K = c.g.K) (hu : X'.A.units + 200 < cLine) {op : COp} (ha : PE X' a (tX c xa)) (hb : PE X' b (tX c xb)) (hm : behindInMarks op.op b = false) : PE X' (.Compare a [op.op] [b] pos) (tX c (.cmp op xa xb)) :=
  PE.imp (pe_cmpR (op_cmp (g := c.g) (cl := c.cl) K hu op) ha hb hm) fun σ H Q ⟨φ, env, S, d, S', re, rs, ev, k⟩ => by
    simp only [evE] at ev
    obtain ⟨d1, S1, e1, ev⟩ := R.bind_ok_inv ev
    obtain ⟨d2, S2, e2, ev⟩ := R.bind_ok_inv ev
    obtain ⟨e3, rfl⟩ := R.of_inv ev
    obtain ⟨b, e3', rfl⟩ := opt_map_inv e3
    exact go re rs e1 fun φ1 H1 v g1 rs1 re1 r1 => go re1 rs1 e2 fun φ2 H2 w g2 rs2 re2 r2 => ⟨φ2, S2, d1, d2, b, rs2, Rep.mono g2 _ _ r1, r2, e3', k φ2 H2 _ (g1.trans g2) rs2 (.bl b)⟩
theorem snd_cmpT (K : X'.K = c.g.K) (hu : X'.A.units + 200 < cLine) {op : COp} (ha : PE X' a (tX c xa)) (hb : PE X' b (tX c xb)) (hm : behindInMarks op.op b = false) : PT X' (.Compare a [op.op] [b] pos) (tXt c (.cmp op xa xb)) :=
  PT.imp (pt_cmpR (op_cmp (g := c.g) (cl := c.cl) K hu op) ha hb hm) fun σ H Q ⟨φ, env, S, d, S', t, re, rs, ev, ht, k⟩ => by
    simp only [evE] at ev
    obtain ⟨d1, S1, e1, ev⟩ := R.bind_ok_inv ev
    obtain ⟨d2, S2, e2, ev⟩ := R.bind_ok_inv ev
    obtain ⟨e3, rfl⟩ := R.of_inv ev
    obtain ⟨b, e3', rfl⟩ := opt_map_inv e3
    simp only [truD, Option.some.injEq] at ht
    subst ht
    exact go re rs e1 fun φ1 H1 v g1 rs1 re1 r1 => go re1 rs1 e2 fun φ2 H2 w g2 rs2 re2 r2 => ⟨φ2, S2, d1, d2, b, rs2, Rep.mono g2 _ _ r1, r2, e3', b, rfl, k φ2 H2 (g1.trans g2) rs2⟩
theorem rd_chain {op op' : COp} {xc : X} : ∀ σ H Q, tX c (.chain op op' xa xb xc) σ H Q → tChain (rb c.g c.cl fun S => cmpD S op) (rb c.g c.cl fun S => cmpD S op') (tX c xa) (tX c xb) (tX c xc) σ H Q := fun σ H Q ⟨φ, env, S, d, S', re, rs, ev, k⟩ => by
    simp only [evE] at ev
    obtain ⟨d1, S1, e1, ev⟩ := R.bind_ok_inv ev
    obtain ⟨d2, S2, e2, ev⟩ := R.bind_ok_inv ev
    obtain ⟨t, S3, e4, ev⟩ := R.bind_ok_inv ev
    obtain ⟨e4', rfl⟩ := R.of_inv e4
    refine go re rs e1 fun φ1 H1 v g1 rs1 re1 r1 => go re1 rs1 e2 fun φ2 H2 w g2 rs2 re2 r2 => ⟨φ2, S2, d1, d2, t, rs2, Rep.mono g2 _ _ r1, r2, e4', t, rfl, ?_⟩
    cases t with
    | false =>
      simp only [Bool.false_eq_true, if_false] at ev ⊢
      cases ev
      exact k φ2 H2 _ (g1.trans g2) rs2 (.bl _)
    | true =>
      simp only [if_true] at ev ⊢
      obtain ⟨d3, S3, e5, ev⟩ := R.bind_ok_inv ev
      obtain ⟨e6, rfl⟩ := R.of_inv ev
      obtain ⟨b, e6', rfl⟩ := opt_map_inv e6
      exact go re2 rs2 e5 fun φ3 H3 z g3 rs3 re3 r3 => ⟨φ3, S3, d2, d3, b, rs3, Rep.mono g3 _ _ r2, r3, e6', k φ3 H3 _ ((g1.trans g2).trans g3) rs3 (.bl b)⟩
theorem snd_chain (K : X'.K = c.g.K) (hu : X'.A.units + 200 < cLine) {op op' : COp} {e3 : Expr} {xc : X} (ha : PE X' a (tX c xa)) (hb : PE X' b (tX c xb)) (hc : PE X' e3 (tX c xc)) (hm : lastMarks [op.op, op'.op] [b, e3] = false) :
    PE X' (.Compare a [op.op, op'.op] [b, e3] pos) (tX c (.chain op op' xa xb xc)) := PE.imp (pe_chain (op_cmp (g := c.g) (cl := c.cl) K hu op) (op_cmp (g := c.g) (cl := c.cl) K hu op') ha hb hc hm) rd_chain
theorem snd_chainT (K : X'.K = c.g.K) (hu : X'.A.units + 200 < cLine) {op op' : COp} {e3 : Expr} {xc : X} (ha : PE X' a (tX c xa)) (hb : PE X' b (tX c xb)) (hc : PE X' e3 (tX c xc)) (hm : lastMarks [op.op, op'.op] [b, e3] = false) :
    PT X' (.Compare a [op.op, op'.op] [b, e3] pos) (tXt c (.chain op op' xa xb xc)) := PT.imp (pt_chain (op_cmp (g := c.g) (cl := c.cl) K hu op) (op_cmp (g := c.g) (cl := c.cl) K hu op') ha hb hc hm) fun σ H Q ⟨φ, env, S, d, S', t, re, rs, ev, ht, k⟩ => by
  refine rd_chain σ H _ ⟨φ, env, S, d, S', re, rs, ev, fun φ' H' v g rs' r => ?_⟩
  have hb : ∃ b, d = .bl b := by
    simp only [evE] at ev
    obtain ⟨d1, S1, e1, ev⟩ := R.bind_ok_inv ev
    obtain ⟨d2, S2, e2, ev⟩ := R.bind_ok_inv ev
    obtain ⟨t, S3, e4, ev⟩ := R.bind_ok_inv ev
    split at ev
    · obtain ⟨d3, S4, e5, ev⟩ := R.bind_ok_inv ev
      obtain ⟨e6, _⟩ := R.of_inv ev
      obtain ⟨b, _, e7⟩ := opt_map_inv e6
      exact ⟨b, e7.symm⟩
    · cases ev; exact ⟨_, rfl⟩
  obtain ⟨b, rfl⟩ := hb
  simp only [truD, Option.some.injEq] at ht
  subst ht
  exact ⟨b, r.bl_inv, k φ' H' g rs'⟩
/-- any expression as a test, by its value's truth -/
theorem snd_truth (K : X'.K = c.g.K) (ha : PE X' a (tX c xa)) (he : ∀ whole, isTrue a X'.env whole = (do let v ← whole; standAt a.pos; holding [v] (truthy v))) : PT X' a (tXt c xa) := by
  refine ⟨fun pins s σ H Q I ⟨φ, env, S, d, S', t, re, rs, ev, ht, k⟩ => ?_⟩
  refine isTrue_plain (thn (ha.run pins s σ H _ I (go re rs ev fun φ1 H1 v g1 rs1 re1 r1 => (⟨φ1, S', d, t, rs1, r1, ht, k φ1 H1 g1 rs1⟩ : ∃ φ S d t, RS c.g c.cl φ S H1 ∧ Rep c.g φ H1 v d ∧ truD S d = some t ∧ Q t H1))) fun v s1 h => ?_) (he _)
  obtain ⟨x, H1, I1, r1, q1⟩ := h
  exact tru_all (g := c.g) (cl := c.cl) K pins s1 σ H1 x v Q I1 r1 q1
theorem snd_not (K : X'.K = c.g.K) (ha : PE X' a (tX c xa)) : PE X' (.UnaryOp .Not a pos) (tX c (.not xa)) := by
  refine ⟨fun pins s σ H Q I ⟨φ, env, S, d, S', re, rs, ev, k⟩ => ?_⟩
  simp only [evE] at ev
  obtain ⟨d1, S1, e1, ev⟩ := R.bind_ok_inv ev
  obtain ⟨e2, rfl⟩ := R.of_inv ev
  obtain ⟨t, e2', rfl⟩ := opt_map_inv e2
  refine UnaryOp_ (thn (ha.run pins s σ H _ I (go re rs e1 fun φ1 H1 v g1 rs1 re1 r1 => (⟨φ1, S1, d1, t, rs1, r1, e2', k φ1 H1 _ g1 rs1 (.bl _)⟩ : ∃ φ S d t, RS c.g c.cl φ S H1 ∧ Rep c.g φ H1 v d ∧ truD S d = some t ∧ Q (.bl (!t)) H1))) fun v s1 h => ?_)
  obtain ⟨x, H1, I1, r1, φ1, S2, d2, t2, rs1, r2, e3, q⟩ := h
  exact not_of (thn (tru_all (g := c.g) (cl := c.cl) K pins s1 σ H1 x v (fun t H2 => Q (.bl (!t)) H2) I1 r1 ⟨φ1, S2, d2, t2, rs1, r2, e3, q⟩) fun b s2 ⟨H2, I2, q2⟩ => ⟨.bl (!b), H2, I2, rfl, q2⟩)
theorem snd_notT (ha : PT X' a (tXt c xa)) : PT X' (.UnaryOp .Not a pos) (tXt c (.not xa)) :=
  PT.imp (pt_not ha) fun σ H Q ⟨φ, env, S, d, S', t, re, rs, ev, ht, k⟩ => by
    simp only [evE] at ev
    obtain ⟨d1, S1, e1, ev⟩ := R.bind_ok_inv ev
    obtain ⟨e2, rfl⟩ := R.of_inv ev
    obtain ⟨t', e2', rfl⟩ := opt_map_inv e2
    simp only [truD, Option.some.injEq] at ht
    subst ht
    exact got re rs e1 e2' fun φ1 H1 g1 rs1 re1 => k φ1 H1 g1 rs1
theorem snd_ite {t : Expr} {xt : X} (hc : PT X' t (tXt c xt)) (ha : PE X' a (tX c xa)) (hb : PE X' b (tX c xb)) : PE X' (.IfExp t a b pos) (tX c (.ite xt xa xb)) :=
  PE.imp (pe_ifExp hc ha hb) fun σ H Q ⟨φ, env, S, d, S', re, rs, ev, k⟩ => by
    simp only [evE] at ev
    obtain ⟨d1, S1, e1, ev⟩ := R.bind_ok_inv ev
    obtain ⟨t, S2, e2, ev⟩ := R.bind_ok_inv ev
    obtain ⟨e3, rfl⟩ := R.of_inv e2
    refine got re rs e1 e3 fun φ1 H1 g1 rs1 re1 => ?_
    cases t with
    | true => simp only [if_true] at ev ⊢; exact go re1 rs1 ev fun φ2 H2 v g2 rs2 _ r2 => k φ2 H2 v (g1.trans g2) rs2 r2
    | false => simp only [Bool.false_eq_true, if_false] at ev ⊢; exact go re1 rs1 ev fun φ2 H2 v g2 rs2 _ r2 => k φ2 H2 v (g1.trans g2) rs2 r2
theorem pt_ifExp {t : Expr} {tt ta tb : TT} (hc : PT X' t tt) (ha : PT X' a ta) (hb : PT X' b tb) : PT X' (.IfExp t a b pos) (fun σ H Q => tt σ H fun k H1 => if k = true then ta σ H1 Q else tb σ H1 Q) := by
  refine ⟨fun pins s σ H Q I h => isTrue_IfExp (thn (hc.run pins s σ H _ I h) fun b s1 ⟨H1, I1, q⟩ => ?_)⟩
  cases b with
  | true => exact ha.run pins s1 σ H1 Q I1 q
  | false => exact hb.run pins s1 σ H1 Q I1 q
theorem snd_iteT {t : Expr} {xt : X} (hc : PT X' t (tXt c xt)) (ha : PT X' a (tXt c xa)) (hb : PT X' b (tXt c xb)) : PT X' (.IfExp t a b pos) (tXt c (.ite xt xa xb)) :=
  PT.imp (pt_ifExp hc ha hb) fun σ H Q ⟨φ, env, S, d, S', tt, re, rs, ev, ht, k⟩ => by
    simp only [evE] at ev
    obtain ⟨d1, S1, e1, ev⟩ := R.bind_ok_inv ev
    obtain ⟨t, S2, e2, ev⟩ := R.bind_ok_inv ev
    obtain ⟨e3, rfl⟩ := R.of_inv e2
    refine got re rs e1 e3 fun φ1 H1 g1 rs1 re1 => ?_
    cases t with
    | true => simp only [if_true] at ev ⊢; exact got re1 rs1 ev ht fun φ2 H2 g2 rs2 _ => k φ2 H2 (g1.trans g2) rs2
    | false => simp only [Bool.false_eq_true, if_false] at ev ⊢; exact got re1 rs1 ev ht fun φ2 H2 g2 rs2 _ => k φ2 H2 (g1.trans g2) rs2
/-- and, or: values -/
theorem TruV_of (K : X'.K = c.g.K) {v : V} {d : D} {t : Bool} (rs : RS c.g c.cl φ S H) (r : Rep c.g φ H v d) (h : truD S d = some t) : TruV X'.K v H t := by
  have emp : ∀ {xs : List V} {ds : List D}, RepL c.g φ H xs ds → xs.isEmpty = ds.isEmpty := fun {xs ds} r => by
    have := r.length
    cases xs <;> cases ds <;> simp_all
  have lists : ∀ {ds : List D}, lstOf S d = some ds → t = !ds.isEmpty → TruV X'.K v H t := fun {ds} e1 e2 => by
    obtain ⟨a, xs, e3, hl, r9⟩ := lst_inv rs r e1
    subst e3
    exact .inl ⟨xs, hl.sq, by rw [emp r9]; exact e2⟩
  cases d with
  | non => simp only [truD, Option.some.injEq] at h; cases r.non_inv; exact h.symm
  | bl b => simp only [truD, Option.some.injEq] at h; cases r.bl_inv; exact h.symm
  | int i => simp only [truD, Option.some.injEq] at h; cases r.int_inv; exact h.symm
  | str z =>
    simp only [truD] at h
    split at h
    · rename_i hz
      cases r.str_inv
      cases h
      exact ⟨szOk_le hz, rfl⟩
    · cases h
  | tup ds =>
    simp only [truD, Option.some.injEq] at h
    obtain ⟨a, xs, rfl, hq, r9⟩ := tup_inv r
    rw [← K] at hq
    exact .inr (.inl ⟨xs, hq, by rw [emp r9]; exact h.symm⟩)
  | lst ds => simp only [truD, Option.some.injEq] at h; exact lists rfl h.symm
  | ref n =>
    simp only [truD] at h
    split at h
    · rename_i l h1
      exact lists (ds := l) (by simp [lstOf, h1]) (Option.some.inj h).symm
    · cases h
  | _ => simp [truD] at h
/-- the reading of and, or -/
def tXand (c : Cfg) (xs : List X) : TE := fun σ H Q => ∃ φ env S d S', RelE c.g φ H env σ ∧ RS c.g c.cl φ S H ∧ evAnd c.cf c.cs xs env S = .ok d S' ∧
  ∀ φ' H' v, Grow φ H φ' H' → RS c.g c.cl φ' S' H' → Rep c.g φ' H' v d → Q v H'
def tXor (c : Cfg) (xs : List X) : TE := fun σ H Q => ∃ φ env S d S', RelE c.g φ H env σ ∧ RS c.g c.cl φ S H ∧ evOr c.cf c.cs xs env S = .ok d S' ∧
  ∀ φ' H' v, Grow φ H φ' H' → RS c.g c.cl φ' S' H' → Rep c.g φ' H' v d → Q v H'
def tXandT (c : Cfg) (xs : List X) : TT := fun σ H Q => ∃ φ env S d S' k, RelE c.g φ H env σ ∧ RS c.g c.cl φ S H ∧ evAnd c.cf c.cs xs env S = .ok d S' ∧ truD S' d = some k ∧
  ∀ φ' H', Grow φ H φ' H' → RS c.g c.cl φ' S' H' → Q k H'
def tXorT (c : Cfg) (xs : List X) : TT := fun σ H Q => ∃ φ env S d S' k, RelE c.g φ H env σ ∧ RS c.g c.cl φ S H ∧ evOr c.cf c.cs xs env S = .ok d S' ∧ truD S' d = some k ∧
  ∀ φ' H', Grow φ H φ' H' → RS c.g c.cl φ' S' H' → Q k H'
variable {rest : List Expr} {xr : List X}
theorem snd_and1 (ha : PE X' a (tX c xa)) : PE X' (.BoolOp .And [a] pos) (tXand c [xa]) :=
  PE.imp (pe_one ha) fun σ H Q ⟨φ, env, S, d, S', re, rs, ev, k⟩ => by
    simp only [evAnd] at ev
    obtain ⟨d1, S1, e1, ev⟩ := R.bind_ok_inv ev
    simp only [List.isEmpty_nil, if_true] at ev
    cases ev
    exact ⟨φ, env, S, d, S', re, rs, e1, k⟩
theorem snd_or1 (ha : PE X' a (tX c xa)) : PE X' (.BoolOp .Or [a] pos) (tXor c [xa]) :=
  PE.imp (pe_one ha) fun σ H Q ⟨φ, env, S, d, S', re, rs, ev, k⟩ => by
    simp only [evOr] at ev
    obtain ⟨d1, S1, e1, ev⟩ := R.bind_ok_inv ev
    simp only [List.isEmpty_nil, if_true] at ev
    cases ev
    exact ⟨φ, env, S, d, S', re, rs, e1, k⟩
theorem snd_andC (K : X'.K = c.g.K) (ha : PE X' a (tX c xa)) (hb : PE X' (.BoolOp .And (b :: rest) pos) (tXand c (xb :: xr))) : PE X' (.BoolOp .And (a :: b :: rest) pos) (tXand c (xa :: xb :: xr)) :=
  PE.imp (pe_andT ha hb) fun σ H Q ⟨φ, env, S, d, S', re, rs, ev, k⟩ => by
    rw [evAnd] at ev
    obtain ⟨d1, S1, e1, ev⟩ := R.bind_ok_inv ev
    simp only [List.isEmpty_cons, Bool.false_eq_true, if_false] at ev
    obtain ⟨t, S2, e2, ev⟩ := R.bind_ok_inv ev
    obtain ⟨e3, rfl⟩ := R.of_inv e2
    refine go re rs e1 fun φ1 H1 v g1 rs1 re1 r1 => ⟨t, TruV_of K rs1 r1 e3, ?_⟩
    cases t with
    | true => simp only [if_true] at ev ⊢; exact ⟨φ1, env, S1, d, S', re1, rs1, ev, fun φ' H' v g' => k φ' H' v (g1.trans g')⟩
    | false => simp only [Bool.false_eq_true, if_false] at ev ⊢; cases ev; exact k φ1 H1 v g1 rs1 r1
theorem snd_orC (K : X'.K = c.g.K) (ha : PE X' a (tX c xa)) (hb : PE X' (.BoolOp .Or (b :: rest) pos) (tXor c (xb :: xr))) : PE X' (.BoolOp .Or (a :: b :: rest) pos) (tXor c (xa :: xb :: xr)) :=
  PE.imp (pe_orT ha hb) fun σ H Q ⟨φ, env, S, d, S', re, rs, ev, k⟩ => by
    rw [evOr] at ev
    obtain ⟨d1, S1, e1, ev⟩ := R.bind_ok_inv ev
    simp only [List.isEmpty_cons, Bool.false_eq_true, if_false] at ev
    obtain ⟨t, S2, e2, ev⟩ := R.bind_ok_inv ev
    obtain ⟨e3, rfl⟩ := R.of_inv e2
    refine go re rs e1 fun φ1 H1 v g1 rs1 re1 r1 => ⟨t, TruV_of K rs1 r1 e3, ?_⟩
    cases t with
    | false => simp only [Bool.false_eq_true, if_false] at ev ⊢; exact ⟨φ1, env, S1, d, S', re1, rs1, ev, fun φ' H' v g' => k φ' H' v (g1.trans g')⟩
    | true => simp only [if_true] at ev ⊢; cases ev; exact k φ1 H1 v g1 rs1 r1
theorem snd_andT1 (ha : PT X' a (tXt c xa)) : PW X' (.BoolOp .And [a] pos) (tXandT c [xa]) :=
  PW.imp (pw_and1 ha) fun σ H Q ⟨φ, env, S, d, S', t, re, rs, ev, ht, k⟩ => by
    simp only [evAnd] at ev
    obtain ⟨d1, S1, e1, ev⟩ := R.bind_ok_inv ev
    simp only [List.isEmpty_nil, if_true] at ev
    cases ev
    exact ⟨φ, env, S, d, S', t, re, rs, e1, ht, k⟩
theorem snd_orT1 (ha : PT X' a (tXt c xa)) : PW X' (.BoolOp .Or [a] pos) (tXorT c [xa]) :=
  PW.imp (pw_or1 ha) fun σ H Q ⟨φ, env, S, d, S', t, re, rs, ev, ht, k⟩ => by
    simp only [evOr] at ev
    obtain ⟨d1, S1, e1, ev⟩ := R.bind_ok_inv ev
    simp only [List.isEmpty_nil, if_true] at ev
    cases ev
    exact ⟨φ, env, S, d, S', t, re, rs, e1, ht, k⟩
theorem snd_andTC (ha : PT X' a (tXt c xa)) (hb : PW X' (.BoolOp .And (b :: rest) pos) (tXandT c (xb :: xr))) : PW X' (.BoolOp .And (a :: b :: rest) pos) (tXandT c (xa :: xb :: xr)) :=
  PW.imp (pw_and ha hb) fun σ H Q ⟨φ, env, S, d, S', t0, re, rs, ev, ht, k⟩ => by
    rw [evAnd] at ev
    obtain ⟨d1, S1, e1, ev⟩ := R.bind_ok_inv ev
    simp only [List.isEmpty_cons, Bool.false_eq_true, if_false] at ev
    obtain ⟨t, S2, e2, ev⟩ := R.bind_ok_inv ev
    obtain ⟨e3, rfl⟩ := R.of_inv e2
    refine got re rs e1 e3 fun φ1 H1 g1 rs1 re1 => ?_
    cases t with
    | true => simp only [if_true] at ev ⊢; exact ⟨φ1, env, S1, d, S', t0, re1, rs1, ev, ht, fun φ' H' g' => k φ' H' (g1.trans g')⟩
    | false =>
      simp only [Bool.false_eq_true, if_false] at ev ⊢
      cases ev
      rw [e3] at ht
      cases ht
      exact k φ1 H1 g1 rs1
theorem snd_orTC (ha : PT X' a (tXt c xa)) (hb : PW X' (.BoolOp .Or (b :: rest) pos) (tXorT c (xb :: xr))) : PW X' (.BoolOp .Or (a :: b :: rest) pos) (tXorT c (xa :: xb :: xr)) :=
  PW.imp (pw_or ha hb) fun σ H Q ⟨φ, env, S, d, S', t0, re, rs, ev, ht, k⟩ => by
    rw [evOr] at ev
    obtain ⟨d1, S1, e1, ev⟩ := R.bind_ok_inv ev
    simp only [List.isEmpty_cons, Bool.false_eq_true, if_false] at ev
    obtain ⟨t, S2, e2, ev⟩ := R.bind_ok_inv ev
    obtain ⟨e3, rfl⟩ := R.of_inv e2
    refine got re rs e1 e3 fun φ1 H1 g1 rs1 re1 => ?_
    cases t with
    | false => simp only [Bool.false_eq_true, if_false] at ev ⊢; exact ⟨φ1, env, S1, d, S', t0, re1, rs1, ev, ht, fun φ' H' g' => k φ' H' (g1.trans g')⟩
    | true =>
      simp only [if_true] at ev ⊢
      cases ev
      rw [e3] at ht
      cases ht
      exact k φ1 H1 g1 rs1
theorem snd_idx (K : X'.K = c.g.K) (ha : PE X' a (tX c xa)) (hb : PE X' b (tX c xb)) (hs : PlainIx b) : PE X' (.Subscript a b pos) (tX c (.idx xa xb)) :=
  PE.imp (pe_ix (ix_all (g := c.g) (cl := c.cl) K) ha hb hs) fun σ H Q ⟨φ, env, S, d, S', re, rs, ev, k⟩ => by
    simp only [evE] at ev
    obtain ⟨d1, S1, e1, ev⟩ := R.bind_ok_inv ev
    obtain ⟨d2, S2, e2, ev⟩ := R.bind_ok_inv ev
    obtain ⟨e3, rfl⟩ := R.of_inv ev
    exact go re rs e1 fun φ1 H1 v g1 rs1 re1 r1 => go re1 rs1 e2 fun φ2 H2 w g2 rs2 re2 r2 => ⟨φ2, S2, d1, d2, d, rs2, Rep.mono g2 _ _ r1, r2, e3, out_of (g1.trans g2) k⟩
/-- an end of a slice -/
def tXo (c : Cfg) (xs : List X) : TO := fun σ H Q => ∃ φ env S o S', RelE c.g φ H env σ ∧ RS c.g c.cl φ S H ∧ evO c.cf c.cs xs env S = .ok o S' ∧ ∀ φ' H', Grow φ H φ' H' → RS c.g c.cl φ' S' H' → Q o H'
theorem PO.imp {e : Option Expr} {t t' : TO} (h : PO X' e t) (i : ∀ σ H Q, t' σ H Q → t σ H Q) : PO X' e t' := ⟨fun pins s σ H Q I q => h.run pins s σ H Q I (i σ H Q q)⟩
theorem snd_o0 : PO X' none (tXo c []) := PO.imp po_none fun σ H Q ⟨φ, env, S, o, S', re, rs, ev, k⟩ => by
  simp only [evO] at ev
  cases ev
  exact k φ H (Grow.refl _ _) rs
theorem snd_o1 (ha : PE X' a (tX c xa)) : PO X' (some a) (tXo c [xa]) := PO.imp (po_some ha) fun σ H Q ⟨φ, env, S, o, S', re, rs, ev, k⟩ => by
  simp only [evO] at ev
  obtain ⟨d1, S1, e1, ev⟩ := R.bind_ok_inv ev
  obtain ⟨e2, rfl⟩ := R.of_inv ev
  cases d1 <;> simp only [optI, reduceCtorEq, Option.some.injEq] at e2
  subst e2
  exact go re rs e1 fun φ1 H1 v g1 rs1 re1 r1 => ⟨_, r1.int_inv, k φ1 H1 g1 rs1⟩
theorem snd_slice (K : X'.K = c.g.K) {lo hi : Option Expr} {xl xh : List X} {p2 : Pos} (ha : PE X' a (tX c xa)) (hl : PO X' lo (tXo c xl)) (hh : PO X' hi (tXo c xh)) : PE X' (.Subscript a (.Slice lo hi none p2) pos) (tX c (.slice xa xl xh)) :=
  PE.imp (pe_slice (sl_all (g := c.g) (cl := c.cl) K) ha hl hh) fun σ H Q ⟨φ, env, S, d, S', re, rs, ev, k⟩ => by
    simp only [evE] at ev
    obtain ⟨d1, S1, e1, ev⟩ := R.bind_ok_inv ev
    obtain ⟨o1, S2, e2, ev⟩ := R.bind_ok_inv ev
    obtain ⟨o2, S3, e3, ev⟩ := R.bind_ok_inv ev
    obtain ⟨e4, rfl⟩ := R.of_inv ev
    exact go re rs e1 fun φ1 H1 v g1 rs1 re1 r1 => ⟨φ1, env, S1, o1, S2, re1, rs1, e2, fun φ2 H2 g2 rs2 => ⟨φ2, env, S2, o2, S3, re1.mono g2, rs2, e3, fun φ3 H3 g3 rs3 =>
      ⟨φ3, S3, d1, d, rs3, Rep.mono (g2.trans g3) _ _ r1, e4, out_of ((g1.trans g2).trans g3) k⟩⟩⟩
end
end Rx

set_option Elab.async false
set_option autoImplicit false
set_option linter.all false
set_option maxRecDepth 100000
set_option maxHeartbeats 1000000
/-! Rx10: new lists, calls, fields, methods. -/
namespace Rx
open PySem PySem.Spec PyProof.Rows L2
/-- the reading of a new list -/
def tCx (c : Cfg) (k : C) : TE := fun σ H Q => ∃ φ env S ds S', RelE c.g φ H env σ ∧ RS c.g c.cl φ S H ∧ evC c.cf c.cs k env S = .ok ds S' ∧
  ∀ φ' H' p xs, Grow φ H φ' H' → RS c.g c.cl φ' S' H' → RepL c.g φ' H' xs ds → H p = none → H' p = some (.lst xs) → p ∉ φ' → Q (.ref p) H'
section
variable {c : Cfg} {X' : Cx} {φ : List Addr} {env : Env} {S S1 : List O} {σ : L2.St} {H : Hp}
variable {e a b : Expr} {xa xb : X} {pos : Pos} {k : C}
theorem snd_val (h : PE X' e (tCx c k)) : PE X' e (tX c (.val k)) := by
  refine ⟨fun pins s σ H Q I ⟨φ, env, S, d, S', re, rs, ev, kk⟩ => ?_⟩
  simp only [evE] at ev
  obtain ⟨ds, S1, e1, ev⟩ := R.bind_ok_inv ev
  cases ev
  refine thn (h.run pins s σ H (fun v H' => ∃ φ' p xs, v = .ref p ∧ Grow φ H φ' H' ∧ RS c.g c.cl φ' S' H' ∧ RepL c.g φ' H' xs ds ∧ H p = none ∧ H' p = some (.lst xs) ∧ p ∉ φ') I
    ⟨φ, env, S, ds, S', re, rs, e1, fun φ' H' p xs g1 rs1 r1 h0 h1 h2 => ⟨φ', p, xs, rfl, g1, rs1, r1, h0, h1, h2⟩⟩) fun u s1 hq => ?_
  obtain ⟨v, H1, I1, rv, φ1, p, xs, rfl, g1, rs1, r1, h0, h1, h2⟩ := hq
  obtain ⟨ob, I2⟩ := inv_freeze I1 h1
  refine ⟨.ref p, _, I2, rv, kk φ1 _ _ (g1.lock h0) (rs1.locked h1 h2) (.lst ⟨ob, upd_same⟩ (RepL.ext (Ext.lock h1) _ _ r1))⟩
theorem snd_own (h : PE X' e (tCx c k)) : PE X' e (tX c (.own k)) :=
  PE.imp h fun σ H Q ⟨φ, env, S, d, S', re, rs, ev, kk⟩ => by
    simp only [evE] at ev
    obtain ⟨ds, S1, e1, ev⟩ := R.bind_ok_inv ev
    cases ev
    refine ⟨φ, env, S, ds, S1, re, rs, e1, fun φ' H' p xs g1 rs1 r1 h0 h1 h2 => ?_⟩
    have ex : Ext φ' H' (φ' ++ [p]) H' := ⟨List.prefix_append _ _, fun _ _ e => e, fun _ _ _ e => e⟩
    obtain ⟨g2, rs2⟩ := rs1.adopt g1 h0 h1 h2 (o := .lst ds) (RepL.ext ex _ _ r1)
    refine kk _ _ _ g2 rs2 (.ref ?_)
    rw [← rs1.len, List.getElem?_append_right (Nat.le_refl _)]
    simp
theorem snd_disp {es : List Expr} {xs : List X} (h : PA X' es (tXs c xs)) : PE X' (.List es pos) (tCx c (.disp xs)) :=
  PE.imp (pe_lst h) fun σ H Q ⟨φ, env, S, d, S', re, rs, ev, k⟩ => by
    simp only [evC] at ev
    obtain ⟨d1, S1, e1, ev⟩ := R.bind_ok_inv ev
    split at ev
    · rename_i hz
      cases ev
      refine gos re rs e1 fun φ1 H1 vs g1 rs1 re1 r1 => ⟨by rw [r1.length]; exact szOk_le hz, fun p hp => ?_⟩
      have g2 : Grow φ1 H1 φ1 (upd H1 p (.lst vs)) := Grow.new hp
      have h0 : H p = none := by
        cases q : H p with
        | none => rfl
        | some o =>
          by_cases n : p ∈ φ
          · exact absurd (g1.pre.subset n) (rs1.free hp)
          · have := g1.keep p o q n
            rw [hp] at this; cases this
      exact k φ1 _ p vs (g1.trans g2) (rs1.new hp) (RepL.mono g2 _ _ r1) h0 upd_same (rs1.free hp)
    · cases ev
theorem fresh_before {φ φ1 : List Addr} {H H1 : Hp} {p : Addr} (g1 : Grow φ H φ1 H1) (rs1 : RS c.g c.cl φ1 S1 H1) (hp : H1 p = none) : H p = none := by
  cases q : H p with
  | none => rfl
  | some o =>
    by_cases n : p ∈ φ
    · exact absurd (g1.pre.subset n) (rs1.free hp)
    · have := g1.keep p o q n
      rw [hp] at this; cases this
/-- the names of built-ins -/
structure Blt (X' : Cx) (x : Str) : Prop where
  gl : Gl X' x
  no : X'.mg x = none
theorem snd_list {p : Pos} (K : X'.K = c.g.K) (B : Blt X' "list") (ha : PE X' a (tX c xa)) (hs : starEach [a] X'.env = [(false, eval a X'.env)]) : PE X' (.Call (.Name "list" p) [a] [] pos) (tCx c (.list xa)) :=
  PE.imp (pe_callTy (call_list_of (X := X')) B.gl B.no (by decide +kernel) (snd_cons ha snd_nil hs) (by decide) (by decide) hs rfl) fun σ H Q ⟨φ, env, S, d, S', re, rs, ev, k⟩ => by
    simp only [evC] at ev
    obtain ⟨d1, S1, e1, ev⟩ := R.bind_ok_inv ev
    obtain ⟨e2, rfl⟩ := R.of_inv ev
    refine gos (ds := [d1]) (S1 := S1) re rs (by simp [evEs, e1]) fun φ1 H1 vs g1 rs1 re1 r1 => ?_
    obtain ⟨v, rfl, rv⟩ := one_inv r1
    obtain ⟨q, xs, rfl, hl, k1⟩ := seq_inv rs1 rv e2
    refine ⟨q, xs, rfl, ?_, fun l hl => ?_⟩
    · rcases hl with hl | hl
      · exact .inl hl.sq
      · rw [K]; exact .inr hl
    · have g2 : Grow φ1 H1 φ1 (upd H1 l (.lst xs)) := Grow.new hl
      exact k φ1 _ l xs (g1.trans g2) (rs1.new hl) (RepL.mono g2 _ _ k1) (fresh_before g1 rs1 hl) upd_same (rs1.free hl)
/-- a built-in called -/
theorem snd_bi {bi : Bi} {x : Str} {f : Value} {es : List Expr} {xs : List X} {p : Pos} (K : X'.K = c.g.K) (hc : X'.calm = true) (B : Blt X' x) (hb : BiV bi f) (hx : bootBuiltins x = some f) (hn : x ≠ "__name__") (hdb : (x == ("__debug__" : Str)) = false) (h : PA X' (e :: es) (tXs c xs))
    (hs : starEach (e :: es) X'.env = (false, eval e X'.env) :: starEach es X'.env) (hpl : (backTo pos (starEach es X'.env)).any (·.1) = false) : PE X' (.Call (.Name x p) (e :: es) [] pos) (tX c (.bi bi xs)) := by
  have fin : ∀ σ H Q, tX c (.bi bi xs) σ H Q → tCB (Rx.r1 c.g c.cl fun S => biD S bi) (tXs c xs) σ H Q := fun σ H Q ⟨φ, env, S, d, S', re, rs, ev, k⟩ => by
    simp only [evE] at ev
    obtain ⟨d1, S1, e1, ev⟩ := R.bind_ok_inv ev
    obtain ⟨e2, rfl⟩ := R.of_inv ev
    exact gos re rs e1 fun φ1 H1 vs g1 rs1 re1 r1 => ⟨φ1, S1, d1, d, rs1, r1, e2, out_of g1 k⟩
  have key := cr_bi (X := X') (g := c.g) (cl := c.cl) K hc hb
  cases hb <;> first
    | exact PE.imp (pe_callB key B.gl B.no hx h hn hdb hs hpl) fin
    | exact PE.imp (pe_callTy key B.gl B.no hx h hn hdb hs hpl) fin
/-! ### isinstance -/
def Ty.nm : Ty → String
  | .int => "int"
  | .bool => "bool"
  | .str => "str"
  | .list => "list"
  | .tuple => "tuple"
  | .dict => "dict"
  | .non => "NoneType"
theorem ty_x {S : List O} {d : D} {t : Ty} {v : V} (rs : RS c.g c.cl φ S H) (r : Rep c.g φ H v d) (h : tyD S d = some t) : TyX c.g.K H v (.type t.nm) := by
  have lists : ∀ {ds : List D}, lstOf S d = some ds → TyX c.g.K H v (.type "list") := fun {ds} e1 => by
    obtain ⟨a, xs, e3, hl, r9⟩ := lst_inv rs r e1
    subst e3
    rcases hl with hl | ⟨o, hl⟩
    · exact .base (.lst hl)
    · exact .base (.frz hl)
  cases d with
  | non => cases h; cases r.non_inv; exact .base .non
  | bl b => cases h; cases r.bl_inv; exact .base (.bl b)
  | int b => cases h; cases r.int_inv; exact .base (.int b)
  | str b => cases h; cases r.str_inv; exact .base (.str b)
  | tup ds =>
    cases h
    obtain ⟨a, xs, rfl, hq, _⟩ := tup_inv r
    rcases hq with (hq | ⟨o, hq⟩) | ⟨o, its, n, hk, hcl, _⟩
    · exact .base (.tup hq)
    · exact .fTuple hq
    · exact .kTuple hk hcl
  | lst ds => cases h; exact lists (ds := ds) rfl
  | ref n =>
    simp only [tyD] at h
    split at h
    · rename_i l e
      cases h
      exact lists (ds := l) (by simp [lstOf, e])
    · cases h
  | _ => simp [tyD] at h
theorem kit_sub (K : PySem.W.Frag) (t u : Ty) (h : u ≠ .non) : PySem.W.kitOne K (.type t.nm) (.type u.nm) = some (t.sub u) := by
  cases t <;> cases u <;> first | exact absurd rfl h | exact kit_ty (by decide +kernel)
theorem snd_isa1 {t : Ty} {x : Str} {p p2 : Pos} (K : X'.K = c.g.K) (B : Blt X' "isinstance") (Bt : Blt X' x) (hx : bootBuiltins x = some (.type t.nm)) (hn : x ≠ "__name__") (hdb : (x == ("__debug__" : Str)) = false) (ht : t ≠ .non) (ha : PE X' a (tX c xa))
    (hs : starEach [a, .Name x p2] X'.env = (false, eval a X'.env) :: starEach [.Name x p2] X'.env) : PE X' (.Call (.Name "isinstance" p) [a, .Name x p2] [] pos) (tX c (.bi (.isa [t]) [xa])) :=
  PE.imp (pe_callB (call_isi (X := X')) B.gl B.no (by decide +kernel) (pa_cons ha (pa_cons (pe_bltn (v := .ty t.nm) Bt.gl Bt.no hx rfl hn hdb) pa_nil) hs) (by decide) (by decide) hs rfl) fun σ H Q ⟨φ, env, S, d, S', re, rs, ev, k⟩ => by
    simp only [evE] at ev
    obtain ⟨d1, S1, e1, ev⟩ := R.bind_ok_inv ev
    obtain ⟨e2, rfl⟩ := R.of_inv ev
    simp only [evEs] at e1
    obtain ⟨d2, S2, e3, e1⟩ := R.bind_ok_inv e1
    cases e1
    simp only [biD] at e2
    obtain ⟨u, e2', rfl⟩ := opt_map_inv e2
    refine go re rs e3 fun φ1 H1 v g1 rs1 re1 r1 => ⟨v, .ty t.nm, .type u.nm, .type t.nm, _, rfl, .ty _, ?_, ?_, k φ1 H1 _ g1 rs1 (.bl _)⟩
    · rw [K]; exact ty_x rs1 r1 e2'
    · rw [kit_sub _ _ _ ht]; simp
end
end Rx

set_option Elab.async false
set_option autoImplicit false
set_option linter.all false
set_option maxRecDepth 100000
set_option maxHeartbeats 1000000
/-! Rx11: defs called, fields, methods, instances. -/
namespace Rx
open PySem PySem.Spec PyProof.Rows L2
/-- a def's promise: what the evaluator says -/
def spF (c : Cfg) (i np : Nat) : Sp := fun vs H Q _ => ∃ φ S ds d S', RS c.g c.cl φ S H ∧ RepL c.g φ H vs ds ∧ ds.length = np ∧ c.cf i ds S = .ok d S' ∧
  ∀ φ' H' v, Grow φ H φ' H' → RS c.g c.cl φ' S' H' → Rep c.g φ' H' v d → Q v H'
/-- the def of number i stands at a -/
structure FnF (c : Cfg) (X' : Cx) (j i np : Nat) (a : Addr) : Prop where
  gv : c.g.gv i = .ref a
  kp : PySem.W.keepIn X'.K (.ref a) = true
  ok : ∃ (fd : FuncData) (ps : List Str), ps.length = np ∧ Binds X'.K fd ps [] ∧ FnOk X'.prog X'.w X'.K X'.mg X'.base CX0 j a fd ps (spF c i np)
section
variable {c : Cfg} {X' : Cx} {φ : List Addr} {env : Env} {S S1 : List O} {σ : L2.St} {H : Hp}
variable {e a b : Expr} {xa xb : X} {pos p apos : Pos} {j i np : Nat} {f : Addr} {x : Str} {es : List Expr} {xs : List X}
theorem sp_of {ds : List D} {vs : List V} {d : D} {S' : List O} {Q : VK} {φ0 : List Addr} {H0 : Hp} (hl : ds.length = np) (rs : RS c.g c.cl φ S H) (r : RepL c.g φ H vs ds) (ev : c.cf i ds S = .ok d S') (g : Grow φ0 H0 φ H)
    (k : ∀ φ' H' v, Grow φ0 H0 φ' H' → RS c.g c.cl φ' S' H' → Rep c.g φ' H' v d → Q v H') : spF c i np vs H Q E0 :=
  ⟨φ, S, ds, d, S', rs, r, hl, ev, fun φ' H' v g' => k φ' H' v (g.trans g')⟩
theorem evEs_length : ∀ {xs : List X} {env : Env} {S S' : List O} {ds : List D}, evEs c.cf c.cs xs env S = .ok ds S' → ds.length = xs.length
  | [], _, _, _, _, h => by simp only [evEs] at h; cases h; rfl
  | x :: xs, _, _, _, _, h => by
    simp only [evEs] at h
    obtain ⟨d1, S1, e1, h⟩ := R.bind_ok_inv h
    obtain ⟨d2, S2, e2, h⟩ := R.bind_ok_inv h
    cases h
    simp [evEs_length e2]
theorem snd_call (F : FnF c X' j i np f) (hr : Room j X'.A) (hg : Gl X' x) (hm : X'.mg x = some (.ref f)) (hl : xs.length = np) (h : PA X' (e :: es) (tXs c xs)) (hdb : (x == ("__debug__" : Str)) = false)
    (hs : starEach (e :: es) X'.env = (false, eval e X'.env) :: starEach es X'.env) (hpl : (backTo pos (starEach es X'.env)).any (·.1) = false) : PE X' (.Call (.Name x p) (e :: es) [] pos) (tX c (.call i xs)) := by
  obtain ⟨fd, ps, hn, hb, G⟩ := F.ok
  refine PE.imp (pe_call G hr hg hm F.kp hb .nil pass0 h hdb hs hpl) fun σ H Q ⟨φ, env, S, d, S', re, rs, ev, k⟩ => ?_
  simp only [evE] at ev
  obtain ⟨d1, S1, e1, ev⟩ := R.bind_ok_inv ev
  exact gos re rs e1 fun φ1 H1 vs g1 rs1 re1 r1 => by rw [List.append_nil]; exact sp_of ((evEs_length e1).trans hl) rs1 r1 ev g1 k
theorem snd_call0 (F : FnF c X' j i 0 f) (hr : Room j X'.A) (hg : Gl X' x) (hm : X'.mg x = some (.ref f)) (hdb : (x == ("__debug__" : Str)) = false) : PE X' (.Call (.Name x p) [] [] pos) (tX c (.call i [])) := by
  obtain ⟨fd, ps, hn, hb, G⟩ := F.ok
  refine PE.imp (pe_call0 G hr hg hm F.kp hb .nil pass0 hdb) fun σ H Q ⟨φ, env, S, d, S', re, rs, ev, k⟩ => ?_
  simp only [evE] at ev
  obtain ⟨d1, S1, e1, ev⟩ := R.bind_ok_inv ev
  simp only [evEs] at e1
  cases e1
  exact sp_of rfl rs .nil ev (Grow.refl _ _) k
/-! ### fields -/
theorem ins_inv {n k : Nat} {fs : List (Str × D)} {v : V} (rs : RS c.g c.cl φ S H) (r : Rep c.g φ H v (.ref n)) (h : S[n]? = some (.ins k fs)) :
    ∃ a dx gs, v = .ref a ∧ φ[n]? = some a ∧ H a = some (.ins (c.cl k) dx gs) ∧ fs.map (·.1) = gs.map (·.1) ∧ RepL c.g φ H (gs.map (·.2)) (fs.map (·.2)) := by
  cases r with
  | @ref a _ h1 =>
    obtain ⟨o, u, e, hu, ro⟩ := rs.at h1
    rw [h] at e; cases e
    cases u <;> first | exact ro.elim | skip
    rename_i C dx gs
    obtain ⟨rfl, h2, h3⟩ := ro
    exact ⟨a, dx, gs, rfl, h1, hu, h2, h3⟩
theorem lookup_rep : ∀ {fs : List (Str × D)} {gs : List (Str × V)} {f : Str} {d : D}, fs.map (·.1) = gs.map (·.1) → RepL c.g φ H (gs.map (·.2)) (fs.map (·.2)) → fs.lookup f = some d → ∃ v, gs.lookup f = some v ∧ Rep c.g φ H v d
  | [], _, _, _, _, _, h => by simp at h
  | (x, d') :: fs, [], _, _, h, _, _ => by simp at h
  | (x, d') :: fs, (y, w) :: gs, f, d, h, r, e => by
    simp only [List.map_cons, List.cons.injEq] at h
    obtain ⟨rfl, h⟩ := h
    cases r with
    | cons r1 r2 =>
      rw [List.lookup_cons] at e ⊢
      split at e
      · cases e; exact ⟨w, rfl, r1⟩
      · exact lookup_rep h r2 e
theorem lookup_none {fs : List (Str × D)} {gs : List (Str × V)} {f : Str} (h : fs.map (·.1) = gs.map (·.1)) (e : fs.lookup f = none) : gs.lookup f = none := by
  rw [List.lookup_eq_none_iff] at e ⊢
  intro p hp
  have : p.1 ∈ fs.map (·.1) := by rw [h]; exact List.mem_map.mpr ⟨p, hp, rfl⟩
  obtain ⟨q, hq, e2⟩ := List.mem_map.mp this
  rw [← e2]; exact e q hq
/-- what the top has written of a class: it stands at cl k, and has no such attribute -/
structure ClF (K : PySem.W.Frag) (C : Addr) : Prop where
  cls : Cls K C
theorem snd_attr {k : Nat} {fl : Str} (K : ∀ k, Cls X'.K (c.cl k)) (N : ∀ k, NoAttr X'.K (c.cl k) fl) (ha : PE X' a (tX c xa)) (hb : attributeBase a fl X'.env (eval a X'.env) = eval a X'.env) : PE X' (.Attribute a fl pos) (tX c (.attr xa fl)) :=
  PE.imp (pe_fld ha hb) fun σ H Q ⟨φ, env, S, d, S', re, rs, ev, k⟩ => by
    simp only [evE] at ev
    obtain ⟨d1, S1, e1, ev⟩ := R.bind_ok_inv ev
    split at ev
    · rename_i n
      split at ev
      · rename_i cc fs hn
        obtain ⟨e2, rfl⟩ := R.of_inv ev
        refine go re rs e1 fun φ1 H1 v g1 rs1 re1 r1 => ?_
        obtain ⟨q, dx, gs, rfl, h1, h2, h3, h4⟩ := ins_inv rs1 r1 hn
        obtain ⟨w, e3, rw'⟩ := lookup_rep h3 h4 e2
        exact ⟨q, _, dx, gs, w, rfl, h2, K _, N _, e3, k φ1 H1 w g1 rs1 rw'⟩
      · cases ev
    · cases ev
end
end Rx

set_option Elab.async false
set_option autoImplicit false
set_option linter.all false
set_option maxRecDepth 100000
set_option maxHeartbeats 1000000
/-! Rx12: enumerate and zip of lists and tuples, in any mix. -/
namespace Rx
open PySem PySem.Spec PyProof.Rows L2
open AutoSeq1 (wpAny_loadPart')
/-- the source: a tuple (true) or a list -/
def II (b : Bool) (it a : Addr) (i : Nat) (h : Heap) : Prop := if b then h.IsTupleIter it a i else h.IsListIter it a i
def IS (b : Bool) (a : Addr) (its : Array Value) (h : Heap) : Prop := if b then h.IsTuple a its else h.IsList a its
def SqK (b : Bool) (K : PySem.W.Frag) (H : Hp) (a : Addr) (xs : List V) : Prop := if b then SqT K H a xs else SqL K H a xs
def itO (b : Bool) (a : Addr) : Obj := if b then { cls := .type "tuple_iterator", data := .fields #[.ref a, .int 0 0] } else { cls := .type "list_iterator", data := .fields #[.ref a, .int 0 0] }
theorem II.new {b : Bool} {it a : Addr} {h : Heap} (e : h.get? it = some (itO b a)) : II b it a 0 h := by
  cases b <;> exact ⟨_, e, rfl, rfl⟩
theorem II.obj {b : Bool} {it a : Addr} {i : Nat} {h : Heap} (x : II b it a i h) : ∃ o, h.get? it = some o ∧ o.cls = .type (if b then "tuple_iterator" else "list_iterator") ∧ o.data = .fields #[.ref a, .int i 0] := by
  cases b <;> exact x
theorem II.keep {b : Bool} {it a : Addr} {i : Nat} {h h' : Heap} (x : II b it a i h) (k : ∀ o, h.get? it = some o → h'.get? it = some o) : II b it a i h' := by
  cases b <;> (obtain ⟨o, e, c⟩ := x; exact ⟨o, k o e, c⟩)
theorem IS.obj {b : Bool} {a : Addr} {its : Array Value} {h : Heap} (x : IS b a its h) : ∃ o, h.get? a = some o ∧ o.cls = .type (if b then "tuple" else "list") := by
  cases b
  · obtain ⟨o, e, c, _⟩ := x; exact ⟨o, e, c⟩
  · obtain ⟨o, e, c, _⟩ := x; exact ⟨o, e, c⟩
theorem IS.ne {b b' : Bool} {it a a' : Addr} {i : Nat} {its : Array Value} {h : Heap} (x : IS b a its h) (y : II b' it a' i h) : a ≠ it := by
  rintro rfl
  obtain ⟨o, e, c⟩ := x.obj
  obtain ⟨o', e', c', _⟩ := y.obj
  rw [e] at e'; cases e'
  rw [c] at c'
  cases b <;> cases b' <;> simp at c'
theorem draws {b : Bool} {prog : Program} {w : World} {A : Around} (hh : A.handled = none) (it a : Addr) (hne : a ≠ it) (its : Array Value) :
    Draws prog w A it [it, a] its.size (fun i v => its[i]? = some v) (fun i h => II b it a i h ∧ IS b a its h) := by
  cases b
  · exact Draws.list hh it a hne its
  · exact Draws.tuple hh it a hne its
theorem begs (b : Bool) (a : Addr) (its : Array Value) : Begins (.ref a) (itO b a) (IS b a its) := by
  cases b
  · exact begins_list a its
  · exact begins_tuple a its
section
variable {X : Cx} {pins : List (Addr × Obj)} {σ : L2.St} {H : Hp} {s : Shared} {a : Addr} {xs ys : List V} {b : Bool}
theorem sqk_at (I : Inv X pins σ H s) (h : SqK b X.K H a xs) : ∃ its : List Value, Vals xs its ∧ IS b a its.toArray s.heap ∧ xs.length ≤ sizeLine := by
  cases b
  · obtain ⟨its, r, p, z⟩ := I.list h; exact ⟨its, r, p.isList, z⟩
  · obtain ⟨its, r, p, z⟩ := I.tuple h; exact ⟨its, r, p, z⟩
theorem sqk_inj (I : Inv X pins σ H s) (h : SqK b X.K H a xs) (h' : SqK b X.K H a ys) : xs = ys := by
  cases b
  · exact I.list_inj h h'
  · exact I.tuple_inj h h'
end
set_option maxHeartbeats 1000000 in
theorem meets_enum1 {v : Value} {o : Obj} {H : Heap → Prop} (B : Begins v o H) :
    Meets (Builtin.«enumerate.__new__» ⟨[.type "enumerate", v], []⟩) (fun _ R s => H s.heap ∧
      R (.ok (.ret (.ref (s.heap.push o).objs.size))) { s with heap := (s.heap.push o).push { cls := .type "enumerate", data := .fields #[.none, .bool false, .ref s.heap.objs.size, rawInt 0, .none, .none] } }) :=
  .of_wp fun prog w A R s h => by
    obtain ⟨hp, gg, dd, tt, os⟩ := s
    obtain ⟨hs, hr⟩ := h
    have sub1 := sub_enumerate
    have it1 : ∀ {A' : Around} {E : Value → Shared → Prop} {Q : Value → Shared → Prop}, Q (.ref hp.objs.size) ⟨hp.push o, gg, dd, tt, os⟩ → wpAny (model prog w) A' (pyIter v) Q E ⟨hp, gg, dd, tt, os⟩ :=
      fun q => B.iter prog w _ _ ⟨hp, gg, dd, tt, os⟩ _ hs q
    wp_walk using it1
    refine wpAny_stack_any fun st => wpAny_pure ?_
    split
    · rename_i cc _ _ _ _ _
      cases (cc == Value.type "enumerate") <;> (wp_walk using it1; exact ⟨_, rfl, hr⟩)
    · wp_walk using it1
      exact ⟨_, rfl, hr⟩
theorem call_enum1 {prog : Program} {w : World} {A : Around} {E : Value → Shared → Prop} {s : Shared} {v : Value} {o : Obj} {H : Heap → Prop} {Q : Value → Shared → Prop} (B : Begins v o H) (h1 : H s.heap)
    (h : ∀ h', IsEnum h' (s.heap.objs.size + 1) s.heap.objs.size 0 .none → h'.get? s.heap.objs.size = some o → (∀ b o, s.heap.get? b = some o → h'.get? b = some o) → Q (.ref (s.heap.objs.size + 1)) { s with heap := h' }) :
    wpAny (model prog w) A (call (.type "enumerate") [v]) Q E s := by
  refine callType_new F.called_enumerate (by decide) (F.typeCall_enumerate_1 _) (F.newCall_enumerate_1 _) (fun obj => F.args_object_init_2 obj _) F.entry_enumerate_new (meets_enum1 B) ⟨h1, ?_⟩
  have hz : (s.heap.push o).objs.size = s.heap.objs.size + 1 := Heap.size_push ..
  show _ ∧ _
  rw [hz]
  have he : IsEnum ((s.heap.push o).push { cls := .type "enumerate", data := .fields #[.none, .bool false, .ref s.heap.objs.size, rawInt 0, .none, .none] }) (s.heap.objs.size + 1) s.heap.objs.size 0 .none := by
    have q := Heap.get?_push_size (s.heap.push o) (o := { cls := .type "enumerate", data := .fields #[.none, .bool false, .ref s.heap.objs.size, rawInt 0, .none, .none] }) rfl
    rw [hz] at q; exact q
  exact ⟨⟨_, he, rfl⟩, h _ he (Heap.get?_push_of_some _ (Heap.get?_push_size _ B.free)) fun b o x => Heap.get?_push_of_some _ (Heap.get?_push_of_some _ x)⟩

/-- enumerate: the items with their numbers, in new pairs -/
def IteG (K : PySem.W.Frag) (b : Bool) (a : Addr) : It :=
  ⟨fun i H => ∃ (xs : List V) (x : V), SqK b K H a xs ∧ xs[i]? = some x, fun i H v H' => ∃ T x, v = .ref T ∧ H T = none ∧ H' = upd H T (.tup [.int (i : Nat), x]) ∧ ∀ xs, SqK b K H a xs → xs[i]? = some x, fun i H => ∃ xs : List V, SqK b K H a xs ∧ xs.length = i⟩
theorem lt_of_get {h : Heap} {a : Addr} {o : Obj} (e : h.get? a = some o) : a < h.objs.size := Heap.lt_size e
theorem II.lt {b : Bool} {it a : Addr} {i : Nat} {h : Heap} (x : II b it a i h) : it < h.objs.size := by
  obtain ⟨o, e, _⟩ := x.obj
  exact Heap.lt_size e
theorem turn_enumG {P : Program} {w : World} {K : PySem.W.Frag} {elts : List Expr} {kk : Nat} {tpos : Pos} (b : Bool) (a e it : Addr) :
    Turn P w K (.Tuple elts kk tpos) (IteG K b a) [e, it] e (fun i h => (∃ old, IsEnum h e it (0 + (i : Int)) old) ∧ II b it a i h ∧ e ≠ it) where
  mem := by simp
  obj := fun i h st c hc => by
    obtain ⟨⟨old, he⟩, hi, _⟩ := st
    obtain ⟨o, ho, _, hd⟩ := hi.obj
    have e' : c = e ∨ c = it := by simpa using hc
    rcases e' with z | z
    · rw [z]; exact ⟨_, he, fun v q => nomatch q⟩
    · rw [z]; exact ⟨o, ho, fun v q => by rw [hd] at q; cases q⟩
  keep := fun i h h' st k => let ⟨⟨old, he⟩, hi, hne⟩ := st; ⟨⟨old, k e (by simp) _ he⟩, hi.keep fun o q => k it (by simp) o q, hne⟩
  item := by
    intro X hP hw hK hc i pins s σ H E I hf st hg
    subst hP hw hK
    obtain ⟨⟨old, he⟩, hit, hne⟩ := st
    obtain ⟨xs, x, hq, hx⟩ := hg
    obtain ⟨its, rv, p, hz⟩ := sqk_at I hq
    obtain ⟨u, hu, ru⟩ := rv.get hx
    have hai : a ≠ it := p.ne hit
    have hae : e ≠ a := by
      rintro rfl
      obtain ⟨o, q, c⟩ := p.obj
      have he' : s.heap.get? e = _ := he
      rw [q] at he'; cases he'
      cases b <;> simp at c
    have hil : i < its.toArray.size := by
      have := (List.getElem?_eq_some_iff.mp hu).1
      simpa using this
    have W := GoesN.enumFrom (prog := X.prog) (w := X.w) (A := X.A) (elts := elts) (x1 := kk) (pos := tpos) 0 (draws (b := b) (A := X.A.in1) (I.ok.hd hc) it a hai its.toArray) e hne (by simp [hne, hae]) (by simp)
    refine W.goes i s _ E hil ⟨⟨old, he⟩, hit, p⟩ fun v h' tk hY st' hk htk => ?_
    obtain ⟨T, t, y, rfl, hT, hy, hTt⟩ := hY
    have ey : y = u := by
      have : its.toArray[i]? = some u := by simpa using hu
      rw [this] at hy; cases hy; rfl
    subst ey
    have hTn : H T = none := I.hok.fresh hT
    have new : ObjOk X.prog X.w (upd H T (.tup [.int (i : Nat), x])) h' T (.tup [.int (i : Nat), x]) :=
      ⟨by show 2 ≤ sizeLine; decide, [.int (0 + (i : Int)) t, y], .cons ⟨t, by rw [Int.zero_add]⟩ (.cons ru .nil), hTt⟩
    refine ⟨.ref T, _, I.turnedNew (t' := tk) (ch := [e, it]) hk hf hT new, rfl, ⟨T, x, rfl, hTn, rfl, fun ys hy => by rw [sqk_inj I hy hq]; exact hx⟩, ⟨?_, st'.2.1, hne⟩, fun c hcm => ?_⟩
    · exact st'.1
    · have hlt : c < s.heap.objs.size := by
        have e' : c = e ∨ c = it := by simpa using hcm
        rcases e' with z | z
        · rw [z]; exact Heap.lt_size he
        · rw [z]; exact hit.lt
      rw [upd_ne (Nat.ne_of_lt (Nat.lt_of_lt_of_le hlt hT))]
      exact (hf c hcm).1
  done := by
    intro X hP hw hK hc i pins s σ H E I hf st hg
    subst hP hw hK
    obtain ⟨⟨old, he⟩, hit, hne⟩ := st
    obtain ⟨xs, hq, hx⟩ := hg
    obtain ⟨its, rv, p, hz⟩ := sqk_at I hq
    have hai : a ≠ it := p.ne hit
    have hae : e ≠ a := by
      rintro rfl
      obtain ⟨o, q, c⟩ := p.obj
      have he' : s.heap.get? e = _ := he
      rw [q] at he'; cases he'
      cases b <;> simp at c
    have hil : i = its.toArray.size := by rw [← hx, rv.length]; simp
    subst hil
    have W := GoesN.enumFrom (prog := X.prog) (w := X.w) (A := X.A) (elts := elts) (x1 := kk) (pos := tpos) 0 (draws (b := b) (A := X.A.in1) (I.ok.hd hc) it a hai its.toArray) e hne (by simp [hne, hae]) (by simp)
    exact W.stops s (fun s1 => Inv X pins σ H s1) E ⟨⟨old, he⟩, hit, p⟩ fun h' tk hk htk => I.turnedL (t' := tk) (ch := [e, it]) hk hf
  self := fun A i s Q E st h => let ⟨⟨_, he⟩, _⟩ := st; wpAny_pyIter_enum he h
/-- zip of two -/
def ItzG (K : PySem.W.Frag) (b1 b2 : Bool) (a1 a2 : Addr) : It :=
  ⟨fun i H => ∃ (xs ys : List V) (x y : V), SqK b1 K H a1 xs ∧ SqK b2 K H a2 ys ∧ xs[i]? = some x ∧ ys[i]? = some y,
    fun i H v H' => ∃ T x y, v = .ref T ∧ H T = none ∧ H' = upd H T (.tup [x, y]) ∧ (∀ xs, SqK b1 K H a1 xs → xs[i]? = some x) ∧ ∀ ys, SqK b2 K H a2 ys → ys[i]? = some y,
    fun i H => ∃ xs ys : List V, SqK b1 K H a1 xs ∧ SqK b2 K H a2 ys ∧ min xs.length ys.length = i⟩
/-- zip of three -/
def Itz3G (K : PySem.W.Frag) (b1 b2 b3 : Bool) (a1 a2 a3 : Addr) : It :=
  ⟨fun i H => ∃ (xs ys zs : List V) (x y z : V), SqK b1 K H a1 xs ∧ SqK b2 K H a2 ys ∧ SqK b3 K H a3 zs ∧ xs[i]? = some x ∧ ys[i]? = some y ∧ zs[i]? = some z,
    fun i H v H' => ∃ T x y z, v = .ref T ∧ H T = none ∧ H' = upd H T (.tup [x, y, z]) ∧ (∀ xs, SqK b1 K H a1 xs → xs[i]? = some x) ∧ (∀ ys, SqK b2 K H a2 ys → ys[i]? = some y) ∧ ∀ zs, SqK b3 K H a3 zs → zs[i]? = some z,
    fun i H => ∃ xs ys zs : List V, SqK b1 K H a1 xs ∧ SqK b2 K H a2 ys ∧ SqK b3 K H a3 zs ∧ min (min xs.length ys.length) zs.length = i⟩
theorem turn_zipG {P : Program} {w : World} {K : PySem.W.Frag} {elts : List Expr} {kk : Nat} {tpos : Pos} (b1 b2 : Bool) (N : Nat) (a1 a2 : Addr) (l1 : a1 < N) (l2 : a2 < N) :
    Turn P w K (.Tuple elts kk tpos) (ItzG K b1 b2 a1 a2) [N + 4, N + 2, N + 3, N, N + 1] (N + 4) (fun i h => IsZip h (N + 4) (N + 2) (N + 3) .none ∧ IsTupOf2 h (N + 2) (.ref N) (.ref (N + 1)) ∧ (∃ x y, IsTupOf2 h (N + 3) x y) ∧ II b1 N a1 i h ∧ II b2 (N + 1) a2 i h) where
  mem := by simp
  obj := fun i h st c hc => by
    obtain ⟨hz, hTI, ⟨x, y, hTO⟩, h1, h2⟩ := st
    obtain ⟨o1, e1, _, d1⟩ := h1.obj
    obtain ⟨o2, e2, _, d2⟩ := h2.obj
    simp only [List.mem_cons, List.not_mem_nil, or_false] at hc
    rcases hc with q | q | q | q | q
    · rw [q]; exact ⟨_, hz, fun v q => nomatch q⟩
    · rw [q]; exact ⟨_, hTI, fun v q => nomatch q⟩
    · rw [q]; exact ⟨_, hTO, fun v q => nomatch q⟩
    · rw [q]; exact ⟨o1, e1, fun v q => by rw [d1] at q; cases q⟩
    · rw [q]; exact ⟨o2, e2, fun v q => by rw [d2] at q; cases q⟩
  keep := fun i h h' st k => by
    obtain ⟨hz, hTI, ⟨x, y, hTO⟩, h1, h2⟩ := st
    exact ⟨k _ (by simp) _ hz, k _ (by simp) _ hTI, ⟨x, y, k _ (by simp) _ hTO⟩, h1.keep fun o q => k _ (by simp) o q, h2.keep fun o q => k _ (by simp) o q⟩
  item := by
    intro X hP hw hK hc i pins s σ H E I hf st hg
    subst hP hw hK
    obtain ⟨hz, hTI, hTO, h1, h2⟩ := st
    obtain ⟨xs, ys, x, y, hqx, hqy, hx, hy⟩ := hg
    obtain ⟨its, rv, p, _⟩ := sqk_at I hqx
    obtain ⟨its2, rv2, p2, _⟩ := sqk_at I hqy
    obtain ⟨u, hu, ru⟩ := rv.get hx
    obtain ⟨u2, hu2, ru2⟩ := rv2.get hy
    have W := GoesN.zip2 (prog := X.prog) (w := X.w) (A := X.A) (elts := elts) (x1 := kk) (pos := tpos) (zip_sep2 (N := N) (fp1 := [a1]) (fp2 := [a2]) (by simpa using l1) (by simpa using l2))
      (draws (b := b1) (A := X.A.in1) (I.ok.hd hc) N a1 (Nat.ne_of_lt l1) its.toArray) (draws (b := b2) (A := X.A.in1) (I.ok.hd hc) (N + 1) a2 (Nat.ne_of_lt (Nat.lt_succ_of_lt l2)) its2.toArray)
    have b1 := (List.getElem?_eq_some_iff.mp hu).1
    have b2 := (List.getElem?_eq_some_iff.mp hu2).1
    refine W.goes i s _ E (by simp; omega) ⟨hz, hTI, hTO, ⟨h1, p⟩, h2, p2⟩ fun v h' tk hY st' hk htk => ?_
    obtain ⟨T, x', y', rfl, hT, hx', hy', hTt⟩ := hY
    have ex : x' = u := by
      have : its.toArray[i]? = some u := by simpa using hu
      rw [this] at hx'; cases hx'; rfl
    have ey : y' = u2 := by
      have : its2.toArray[i]? = some u2 := by simpa using hu2
      rw [this] at hy'; cases hy'; rfl
    subst ex; subst ey
    have hTn : H T = none := I.hok.fresh hT
    have new : ObjOk X.prog X.w (upd H T (.tup [x, y])) h' T (.tup [x, y]) := ⟨by show 2 ≤ sizeLine; decide, [x', y'], .cons ru (.cons ru2 .nil), hTt⟩
    refine ⟨.ref T, _, I.turnedNew (t' := tk) (ch := [N + 4, N + 2, N + 3, N, N + 1]) (fun c o hb q => hk c o (fun z => hb (by simp only [List.mem_cons, List.not_mem_nil, or_false] at z ⊢; rcases z with z | z | z | z <;> simp [z])) q) hf hT new, rfl,
      ⟨T, x, y, rfl, hTn, rfl, fun l hl => by rw [sqk_inj I hl hqx]; exact hx, fun l hl => by rw [sqk_inj I hl hqy]; exact hy⟩, ⟨st'.1, st'.2.1, st'.2.2.1, st'.2.2.2.1.1, st'.2.2.2.2.1⟩, fun c hcm => ?_⟩
    have hlt : c < s.heap.objs.size := by
      obtain ⟨_, _, hTO⟩ := hTO
      simp only [List.mem_cons, List.not_mem_nil, or_false] at hcm
      rcases hcm with z | z | z | z | z
      · rw [z]; exact Heap.lt_size hz
      · rw [z]; exact Heap.lt_size hTI
      · rw [z]; exact Heap.lt_size hTO
      · rw [z]; exact h1.lt
      · rw [z]; exact h2.lt
    rw [upd_ne (Nat.ne_of_lt (Nat.lt_of_lt_of_le hlt hT))]
    exact (hf c hcm).1
  done := by
    intro X hP hw hK hc i pins s σ H E I hf st hg
    subst hP hw hK
    obtain ⟨hz, hTI, hTO, h1, h2⟩ := st
    obtain ⟨xs, ys, hqx, hqy, hl⟩ := hg
    obtain ⟨its, rv, p, _⟩ := sqk_at I hqx
    obtain ⟨its2, rv2, p2, _⟩ := sqk_at I hqy
    have hil : i = min its.toArray.size its2.toArray.size := by rw [← hl, rv.length, rv2.length]; simp
    subst hil
    have W := GoesN.zip2 (prog := X.prog) (w := X.w) (A := X.A) (elts := elts) (x1 := kk) (pos := tpos) (zip_sep2 (N := N) (fp1 := [a1]) (fp2 := [a2]) (by simpa using l1) (by simpa using l2))
      (draws (b := b1) (A := X.A.in1) (I.ok.hd hc) N a1 (Nat.ne_of_lt l1) its.toArray) (draws (b := b2) (A := X.A.in1) (I.ok.hd hc) (N + 1) a2 (Nat.ne_of_lt (Nat.lt_succ_of_lt l2)) its2.toArray)
    exact W.stops s (fun s1 => Inv X pins σ H s1) E ⟨hz, hTI, hTO, ⟨h1, p⟩, h2, p2⟩ fun h' tk hk htk => I.turnedL (t' := tk) (ch := [N + 4, N + 2, N + 3, N, N + 1]) (fun c o hb q => hk c o (fun z => hb (by simp only [List.mem_cons, List.not_mem_nil, or_false] at z ⊢; rcases z with z | z | z | z <;> simp [z])) q) hf
  self := fun A i s Q E st h => wpAny_pyIter_zip st.1 h
theorem turn_zip3G {P : Program} {w : World} {K : PySem.W.Frag} {elts : List Expr} {kk : Nat} {tpos : Pos} (b1 b2 b3 : Bool) (N : Nat) (a1 a2 a3 : Addr) (l1 : a1 < N) (l2 : a2 < N) (l3 : a3 < N) :
    Turn P w K (.Tuple elts kk tpos) (Itz3G K b1 b2 b3 a1 a2 a3) [N + 5, N + 3, N + 4, N, N + 1, N + 2] (N + 5) (fun i h => IsZip h (N + 5) (N + 3) (N + 4) .none ∧ IsTupOf3 h (N + 3) (.ref N) (.ref (N + 1)) (.ref (N + 2)) ∧ (∃ x y z, IsTupOf3 h (N + 4) x y z) ∧ II b1 N a1 i h ∧ II b2 (N + 1) a2 i h ∧ II b3 (N + 2) a3 i h) where
  mem := by simp
  obj := fun i h st c hc => by
    obtain ⟨hz, hTI, ⟨x, y, z, hTO⟩, h1, h2, h3⟩ := st
    obtain ⟨o1, e1, _, d1⟩ := h1.obj
    obtain ⟨o2, e2, _, d2⟩ := h2.obj
    obtain ⟨o3, e3, _, d3⟩ := h3.obj
    simp only [List.mem_cons, List.not_mem_nil, or_false] at hc
    rcases hc with q | q | q | q | q | q
    · rw [q]; exact ⟨_, hz, fun v q => nomatch q⟩
    · rw [q]; exact ⟨_, hTI, fun v q => nomatch q⟩
    · rw [q]; exact ⟨_, hTO, fun v q => nomatch q⟩
    · rw [q]; exact ⟨o1, e1, fun v q => by rw [d1] at q; cases q⟩
    · rw [q]; exact ⟨o2, e2, fun v q => by rw [d2] at q; cases q⟩
    · rw [q]; exact ⟨o3, e3, fun v q => by rw [d3] at q; cases q⟩
  keep := fun i h h' st k => by
    obtain ⟨hz, hTI, ⟨x, y, z, hTO⟩, h1, h2, h3⟩ := st
    exact ⟨k _ (by simp) _ hz, k _ (by simp) _ hTI, ⟨x, y, z, k _ (by simp) _ hTO⟩, h1.keep fun o q => k _ (by simp) o q, h2.keep fun o q => k _ (by simp) o q, h3.keep fun o q => k _ (by simp) o q⟩
  item := by
    intro X hP hw hK hc i pins s σ H E I hf st hg
    subst hP hw hK
    obtain ⟨hz, hTI, hTO, h1, h2, h3⟩ := st
    obtain ⟨xs, ys, zs, x, y, z, hqx, hqy, hqz, hx, hy, hz0⟩ := hg
    obtain ⟨its, rv, p, _⟩ := sqk_at I hqx
    obtain ⟨its2, rv2, p2, _⟩ := sqk_at I hqy
    obtain ⟨its3, rv3, p3, _⟩ := sqk_at I hqz
    obtain ⟨u, hu, ru⟩ := rv.get hx
    obtain ⟨u2, hu2, ru2⟩ := rv2.get hy
    obtain ⟨u3, hu3, ru3⟩ := rv3.get hz0
    have W := GoesN.zip3 (prog := X.prog) (w := X.w) (A := X.A) (elts := elts) (x1 := kk) (pos := tpos) (zip_sep3 (N := N) (fp1 := [a1]) (fp2 := [a2]) (fp3 := [a3]) (by simpa using l1) (by simpa using l2) (by simpa using l3))
      (draws (b := b1) (A := X.A.in1) (I.ok.hd hc) N a1 (Nat.ne_of_lt l1) its.toArray) (draws (b := b2) (A := X.A.in1) (I.ok.hd hc) (N + 1) a2 (Nat.ne_of_lt (Nat.lt_succ_of_lt l2)) its2.toArray)
      (draws (b := b3) (A := X.A.in1) (I.ok.hd hc) (N + 2) a3 (Nat.ne_of_lt (Nat.lt_succ_of_lt (Nat.lt_succ_of_lt l3))) its3.toArray)
    have b1 := (List.getElem?_eq_some_iff.mp hu).1
    have b2 := (List.getElem?_eq_some_iff.mp hu2).1
    have b3 := (List.getElem?_eq_some_iff.mp hu3).1
    refine W.goes i s _ E (by simp; omega) ⟨hz, hTI, hTO, ⟨h1, p⟩, ⟨h2, p2⟩, h3, p3⟩ fun v h' tk hY st' hk htk => ?_
    obtain ⟨T, x', y', z', rfl, hT, hx', hy', hz', hTt⟩ := hY
    have ex : x' = u := by
      have : its.toArray[i]? = some u := by simpa using hu
      rw [this] at hx'; cases hx'; rfl
    have ey : y' = u2 := by
      have : its2.toArray[i]? = some u2 := by simpa using hu2
      rw [this] at hy'; cases hy'; rfl
    have ez : z' = u3 := by
      have : its3.toArray[i]? = some u3 := by simpa using hu3
      rw [this] at hz'; cases hz'; rfl
    subst ex; subst ey; subst ez
    have hTn : H T = none := I.hok.fresh hT
    have new : ObjOk X.prog X.w (upd H T (.tup [x, y, z])) h' T (.tup [x, y, z]) := ⟨by show 3 ≤ sizeLine; decide, [x', y', z'], .cons ru (.cons ru2 (.cons ru3 .nil)), hTt⟩
    refine ⟨.ref T, _, I.turnedNew (t' := tk) (ch := [N + 5, N + 3, N + 4, N, N + 1, N + 2]) (fun c o hb q => hk c o (fun z => hb (by simp only [List.mem_cons, List.not_mem_nil, or_false] at z ⊢; rcases z with z | z | z | z | z <;> simp [z])) q) hf hT new, rfl,
      ⟨T, x, y, z, rfl, hTn, rfl, fun l hl => by rw [sqk_inj I hl hqx]; exact hx, fun l hl => by rw [sqk_inj I hl hqy]; exact hy, fun l hl => by rw [sqk_inj I hl hqz]; exact hz0⟩, ⟨st'.1, st'.2.1, st'.2.2.1, st'.2.2.2.1.1, st'.2.2.2.2.1.1, st'.2.2.2.2.2.1⟩, fun c hcm => ?_⟩
    have hlt : c < s.heap.objs.size := by
      obtain ⟨_, _, _, hTO⟩ := hTO
      simp only [List.mem_cons, List.not_mem_nil, or_false] at hcm
      rcases hcm with z | z | z | z | z | z
      · rw [z]; exact Heap.lt_size hz
      · rw [z]; exact Heap.lt_size hTI
      · rw [z]; exact Heap.lt_size hTO
      · rw [z]; exact h1.lt
      · rw [z]; exact h2.lt
      · rw [z]; exact h3.lt
    rw [upd_ne (Nat.ne_of_lt (Nat.lt_of_lt_of_le hlt hT))]
    exact (hf c hcm).1
  done := by
    intro X hP hw hK hc i pins s σ H E I hf st hg
    subst hP hw hK
    obtain ⟨hz, hTI, hTO, h1, h2, h3⟩ := st
    obtain ⟨xs, ys, zs, hqx, hqy, hqz, hl⟩ := hg
    obtain ⟨its, rv, p, _⟩ := sqk_at I hqx
    obtain ⟨its2, rv2, p2, _⟩ := sqk_at I hqy
    obtain ⟨its3, rv3, p3, _⟩ := sqk_at I hqz
    have hil : i = min (min its.toArray.size its2.toArray.size) its3.toArray.size := by rw [← hl, rv.length, rv2.length, rv3.length]; simp
    subst hil
    have W := GoesN.zip3 (prog := X.prog) (w := X.w) (A := X.A) (elts := elts) (x1 := kk) (pos := tpos) (zip_sep3 (N := N) (fp1 := [a1]) (fp2 := [a2]) (fp3 := [a3]) (by simpa using l1) (by simpa using l2) (by simpa using l3))
      (draws (b := b1) (A := X.A.in1) (I.ok.hd hc) N a1 (Nat.ne_of_lt l1) its.toArray) (draws (b := b2) (A := X.A.in1) (I.ok.hd hc) (N + 1) a2 (Nat.ne_of_lt (Nat.lt_succ_of_lt l2)) its2.toArray)
      (draws (b := b3) (A := X.A.in1) (I.ok.hd hc) (N + 2) a3 (Nat.ne_of_lt (Nat.lt_succ_of_lt (Nat.lt_succ_of_lt l3))) its3.toArray)
    exact W.stops s (fun s1 => Inv X pins σ H s1) E ⟨hz, hTI, hTO, ⟨h1, p⟩, ⟨h2, p2⟩, h3, p3⟩ fun h' tk hk htk => I.turnedL (t' := tk) (ch := [N + 5, N + 3, N + 4, N, N + 1, N + 2]) (fun c o hb q => hk c o (fun z => hb (by simp only [List.mem_cons, List.not_mem_nil, or_false] at z ⊢; rcases z with z | z | z | z | z <;> simp [z])) q) hf
  self := fun A i s Q E st h => wpAny_pyIter_zip st.1 h
end Rx

set_option Elab.async false
set_option autoImplicit false
set_option linter.all false
set_option maxRecDepth 100000
set_option maxHeartbeats 1000000
/-! Rx13: what loops walk. -/
namespace Rx
open PySem PySem.Spec PyProof.Rows L2
/-- the source stands at a -/
def SrcAt (c : Cfg) (φ : List Addr) (H : Hp) (s : Src) (b : Bool) (a : Addr) : Prop :=
  ∀ (φ1 : List Addr) (H1 : Hp) (S1 : List O), Ext φ H φ1 H1 → RS c.g c.cl φ1 S1 H1 → s.still S1 = true → ∃ xs, SqK b c.g.K H1 a xs ∧ RepL c.g φ1 H1 xs s.list
/-- the iterator gives the source's items -/
def Serves (c : Cfg) (φ : List Addr) (H : Hp) (s : Src) (J : It) : Prop :=
  ∀ (i : Nat) (φ1 : List Addr) (H1 : Hp) (S1 : List O), Ext φ H φ1 H1 → RS c.g c.cl φ1 S1 H1 → s.still S1 = true →
    (∀ d, s.list[i]? = some d → J.go i H1 ∧ ∀ x H2, J.yld i H1 x H2 → Grow φ1 H1 φ1 H2 ∧ RS c.g c.cl φ1 S1 H2 ∧ Rep c.g φ1 H2 x d) ∧ (i = s.list.length → J.stop i H1)
/-- the reading of what is walked -/
def tI (c : Cfg) (it : I) : TI := fun σ H R => ∃ φ env S src S', RelE c.g φ H env σ ∧ RS c.g c.cl φ S H ∧ evIt c.cf c.cs it env S = .ok src S' ∧
  ∀ φ' H' J, Grow φ H φ' H' → RS c.g c.cl φ' S' H' → Serves c φ' H' src J → R J H'
theorem PI.imp {X : Cx} {tg e : Expr} {t t' : TI} (h : PI X tg e t) (i : ∀ σ H Q, t' σ H Q → t σ H Q) : PI X tg e t' := ⟨fun pins s σ H Q I q => h.run pins s σ H Q I (i σ H Q q)⟩
section
variable {c : Cfg} {X' : Cx} {φ : List Addr} {env : Env} {S S1 : List O} {σ : L2.St} {H : Hp}
theorem still_one {n : Nat} {o : O} (h : (Src.mk [(n, o)] []).still S = true) : S[n]? = some o := by
  simp only [Src.still, List.all_cons, List.all_nil, Bool.and_true] at h
  split at h
  · rename_i o' e
    rw [O.beq_eq h] at e; exact e
  · cases h
theorem still_app {s1 s2 : Src} {l : List D} : (Src.mk (s1.chk ++ s2.chk) l).still S = true ↔ s1.still S = true ∧ s2.still S = true := by
  simp [Src.still, List.all_append]
theorem still_list {ck : List (Nat × O)} {l m : List D} : (Src.mk ck l).still S = (Src.mk ck m).still S := rfl
theorem srcOf_still {d : D} {s : Src} (h : srcOf S d = some s) : s.still S = true := by
  cases d <;> simp only [srcOf, Option.some.injEq, reduceCtorEq] at h <;> first | (subst h; rfl) | skip
  split at h
  · rename_i n l e
    cases h
    simp [Src.still, e, O.beq_self]
  · cases h
theorem src_at {v : V} {d : D} {s : Src} (rs : RS c.g c.cl φ S H) (r : Rep c.g φ H v d) (h : srcOf S d = some s) : ∃ a b, v = .ref a ∧ SrcAt c φ H s b a := by
  cases d with
  | tup l =>
    simp only [srcOf, Option.some.injEq] at h
    subst h
    cases r with
    | @tup a xs _ h1 h2 => exact ⟨a, true, rfl, fun φ1 H1 S1 g rs1 st => ⟨xs, g.sqt h1, RepL.ext g _ _ h2⟩⟩
  | lst l =>
    simp only [srcOf, Option.some.injEq] at h
    subst h
    cases r with
    | @lst a xs _ h1 h2 => exact ⟨a, false, rfl, fun φ1 H1 S1 g rs1 st => ⟨xs, (g.pl h1).sq, RepL.ext g _ _ h2⟩⟩
  | scr l =>
    simp only [srcOf, Option.some.injEq] at h
    subst h
    cases r with
    | @scr a xs _ h1 h2 => exact ⟨a, false, rfl, fun φ1 H1 S1 g rs1 st => ⟨xs, (g.plk h1).sq, RepL.ext g _ _ h2⟩⟩
  | ref n =>
    simp only [srcOf] at h
    split at h
    · rename_i l e
      cases h
      cases r with
      | @ref a _ h1 =>
        refine ⟨a, false, rfl, fun φ1 H1 S1 g rs1 st => ?_⟩
        have e1 := still_one (by rw [← st]; rfl)
        obtain ⟨o, u, e2, hu, ro⟩ := rs1.at (g.get h1)
        rw [e1] at e2; cases e2
        cases u <;> first | exact ro.elim | exact ⟨_, .inl (.inl hu), ro⟩
    · cases h
  | _ => simp [srcOf] at h
theorem serves_seq {s : Src} {b : Bool} {a : Addr} (K : X'.K = c.g.K) (h : SrcAt c φ H s b a) : Serves c φ H s (if b then Itt X'.K a else Itl X'.K a) := by
  intro i φ1 H1 S1 g rs1 st
  obtain ⟨xs, hq, r⟩ := h φ1 H1 S1 g rs1 st
  rw [← K] at hq
  cases b with
  | true =>
    refine ⟨fun d hd => ?_, fun e => ⟨xs, hq, by rw [r.length, e]; exact Nat.le_refl _⟩⟩
    obtain ⟨v, h1, h2⟩ := r.get hd
    refine ⟨⟨xs, v, hq, h1⟩, fun x H2 y => ?_⟩
    obtain ⟨rfl, y⟩ := y
    have := y xs hq
    rw [h1] at this; cases this
    exact ⟨Grow.refl _ _, rs1, h2⟩
  | false =>
    refine ⟨fun d hd => ?_, fun e => ⟨xs, hq, by rw [r.length, e]; exact Nat.le_refl _⟩⟩
    obtain ⟨v, h1, h2⟩ := r.get hd
    refine ⟨⟨xs, v, hq, h1⟩, fun x H2 y => ?_⟩
    obtain ⟨rfl, y⟩ := y
    have := y xs hq
    rw [h1] at this; cases this
    exact ⟨Grow.refl _ _, rs1, h2⟩
theorem enumL_get : ∀ (l : List D) (k i : Nat) (d : D), (enumL k l)[i]? = some d → ∃ e, l[i]? = some e ∧ d = .tup [.int ((k + i : Nat) : Int), e]
  | [], _, _, _, h => by simp [enumL] at h
  | x :: l, k, 0, d, h => by simp [enumL] at h; exact ⟨x, rfl, h.symm⟩
  | x :: l, k, i + 1, d, h => by
    obtain ⟨e, h1, h2⟩ := enumL_get l (k + 1) i d (by simpa [enumL] using h)
    exact ⟨e, by simpa using h1, by rw [h2, show k + 1 + i = k + (i + 1) by omega]⟩
theorem enumL_length : ∀ (l : List D) (k : Nat), (enumL k l).length = l.length
  | [], _ => rfl
  | x :: l, k => by simp [enumL, enumL_length l]
theorem serves_enum {s : Src} {b : Bool} {a : Addr} (K : X'.K = c.g.K) (h : SrcAt c φ H s b a) : Serves c φ H ⟨s.chk, enumL 0 s.list⟩ (IteG X'.K b a) := by
  intro i φ1 H1 S1 g rs1 st
  obtain ⟨xs, hq, r⟩ := h φ1 H1 S1 g rs1 st
  rw [← K] at hq
  refine ⟨fun d hd => ?_, fun e => ⟨xs, hq, by rw [r.length, e, enumL_length]⟩⟩
  obtain ⟨d', hd', rfl⟩ := enumL_get _ _ _ _ hd
  obtain ⟨v, h1, h2⟩ := r.get hd'
  refine ⟨⟨xs, v, hq, h1⟩, fun x H2 y => ?_⟩
  obtain ⟨T, y, rfl, hT, rfl, hy⟩ := y
  have := hy xs hq
  rw [h1] at this; cases this
  have g2 : Grow φ1 H1 φ1 (upd H1 T (.tup [.int (i : Nat), v])) := Grow.new hT
  exact ⟨g2, rs1.new hT, .tup (.inl (.inl upd_same)) (.cons (by rw [Nat.zero_add]; exact .int _) (.cons (Rep.mono g2 _ _ h2) .nil))⟩
theorem zip2L_get : ∀ (l m : List D) (i : Nat) (d : D), (zip2L l m)[i]? = some d → ∃ e f, l[i]? = some e ∧ m[i]? = some f ∧ d = .tup [e, f]
  | [], _, _, _, h => by simp [zip2L] at h
  | _ :: _, [], _, _, h => by simp [zip2L] at h
  | x :: l, y :: m, 0, d, h => by simp [zip2L] at h; exact ⟨x, y, rfl, rfl, h.symm⟩
  | x :: l, y :: m, i + 1, d, h => by
    obtain ⟨e, f, h1, h2, h3⟩ := zip2L_get l m i d (by simpa [zip2L] using h)
    exact ⟨e, f, by simpa using h1, by simpa using h2, h3⟩
theorem zip2L_length : ∀ (l m : List D), (zip2L l m).length = min l.length m.length
  | [], _ => by simp [zip2L]
  | _ :: _, [] => by simp [zip2L]
  | x :: l, y :: m => by simp [zip2L, zip2L_length l m]
theorem zip3L_get : ∀ (l m n : List D) (i : Nat) (d : D), (zip3L l m n)[i]? = some d → ∃ e f k, l[i]? = some e ∧ m[i]? = some f ∧ n[i]? = some k ∧ d = .tup [e, f, k]
  | [], _, _, _, _, h => by simp [zip3L] at h
  | _ :: _, [], _, _, _, h => by simp [zip3L] at h
  | _ :: _, _ :: _, [], _, _, h => by simp [zip3L] at h
  | x :: l, y :: m, z :: n, 0, d, h => by simp [zip3L] at h; exact ⟨x, y, z, rfl, rfl, rfl, h.symm⟩
  | x :: l, y :: m, z :: n, i + 1, d, h => by
    obtain ⟨e, f, k, h1, h2, h3, h4⟩ := zip3L_get l m n i d (by simpa [zip3L] using h)
    exact ⟨e, f, k, by simpa using h1, by simpa using h2, by simpa using h3, h4⟩
theorem zip3L_length : ∀ (l m n : List D), (zip3L l m n).length = min (min l.length m.length) n.length
  | [], _, _ => by simp [zip3L]
  | _ :: _, [], _ => by simp [zip3L]
  | _ :: _, _ :: _, [] => by simp [zip3L]
  | x :: l, y :: m, z :: n => by simp [zip3L, zip3L_length l m n]
theorem serves_zip2 {s1 s2 : Src} {b1 b2 : Bool} {a1 a2 : Addr} (K : X'.K = c.g.K) (h1 : SrcAt c φ H s1 b1 a1) (h2 : SrcAt c φ H s2 b2 a2) : Serves c φ H ⟨s1.chk ++ s2.chk, zip2L s1.list s2.list⟩ (ItzG X'.K b1 b2 a1 a2) := by
  intro i φ1 H1 S1 g rs1 st
  obtain ⟨st1, st2⟩ := still_app.mp st
  obtain ⟨xs, hq, r⟩ := h1 φ1 H1 S1 g rs1 st1
  obtain ⟨ys, hq2, r2⟩ := h2 φ1 H1 S1 g rs1 st2
  rw [← K] at hq hq2
  refine ⟨fun d hd => ?_, fun e => ⟨xs, ys, hq, hq2, by rw [r.length, r2.length, e, zip2L_length]⟩⟩
  obtain ⟨d1, d2, e1, e2, rfl⟩ := zip2L_get _ _ _ _ hd
  obtain ⟨v, k1, k2⟩ := r.get e1
  obtain ⟨w, k3, k4⟩ := r2.get e2
  refine ⟨⟨xs, ys, v, w, hq, hq2, k1, k3⟩, fun x H2 y => ?_⟩
  obtain ⟨T, x', y', rfl, hT, rfl, hx, hy⟩ := y
  have e5 := hx xs hq
  rw [k1] at e5; cases e5
  have e6 := hy ys hq2
  rw [k3] at e6; cases e6
  have g2 : Grow φ1 H1 φ1 (upd H1 T (.tup [v, w])) := Grow.new hT
  exact ⟨g2, rs1.new hT, .tup (.inl (.inl upd_same)) (.cons (Rep.mono g2 _ _ k2) (.cons (Rep.mono g2 _ _ k4) .nil))⟩
theorem serves_zip3 {s1 s2 s3 : Src} {b1 b2 b3 : Bool} {a1 a2 a3 : Addr} (K : X'.K = c.g.K) (h1 : SrcAt c φ H s1 b1 a1) (h2 : SrcAt c φ H s2 b2 a2) (h3 : SrcAt c φ H s3 b3 a3) :
    Serves c φ H ⟨s1.chk ++ (s2.chk ++ s3.chk), zip3L s1.list s2.list s3.list⟩ (Itz3G X'.K b1 b2 b3 a1 a2 a3) := by
  intro i φ1 H1 S1 g rs1 st
  obtain ⟨st1, st4⟩ := (still_app (s1 := s1) (s2 := ⟨s2.chk ++ s3.chk, []⟩)).mp st
  obtain ⟨st2, st3⟩ := still_app.mp st4
  obtain ⟨xs, hq, r⟩ := h1 φ1 H1 S1 g rs1 st1
  obtain ⟨ys, hq2, r2⟩ := h2 φ1 H1 S1 g rs1 st2
  obtain ⟨zs, hq3, r3⟩ := h3 φ1 H1 S1 g rs1 st3
  rw [← K] at hq hq2 hq3
  refine ⟨fun d hd => ?_, fun e => ⟨xs, ys, zs, hq, hq2, hq3, by rw [r.length, r2.length, r3.length, e, zip3L_length]⟩⟩
  obtain ⟨d1, d2, d3, e1, e2, e3, rfl⟩ := zip3L_get _ _ _ _ _ hd
  obtain ⟨v, k1, k2⟩ := r.get e1
  obtain ⟨w, k3, k4⟩ := r2.get e2
  obtain ⟨u, k5, k6⟩ := r3.get e3
  refine ⟨⟨xs, ys, zs, v, w, u, hq, hq2, hq3, k1, k3, k5⟩, fun x H2 y => ?_⟩
  obtain ⟨T, x', y', z', rfl, hT, rfl, hx, hy, hz⟩ := y
  have e5 := hx xs hq
  rw [k1] at e5; cases e5
  have e6 := hy ys hq2
  rw [k3] at e6; cases e6
  have e7 := hz zs hq3
  rw [k5] at e7; cases e7
  have g2 : Grow φ1 H1 φ1 (upd H1 T (.tup [v, w, u])) := Grow.new hT
  exact ⟨g2, rs1.new hT, .tup (.inl (.inl upd_same)) (.cons (Rep.mono g2 _ _ k2) (.cons (Rep.mono g2 _ _ k4) (.cons (Rep.mono g2 _ _ k6) .nil)))⟩
theorem serves_rng {lo : Int} {n : Nat} : Serves c φ H ⟨[], rngL lo n⟩ (Itr lo n) := by
  intro i φ1 H1 S1 g rs1 st
  refine ⟨fun d hd => ?_, fun e => by show n ≤ i; rw [e]; simp [rngL]⟩
  have hd : (rngL lo n)[i]? = some d := hd
  simp only [rngL, List.getElem?_map] at hd
  by_cases hi : i < n
  · rw [List.getElem?_eq_getElem (by simpa using hi)] at hd
    simp at hd
    refine ⟨hi, fun x H2 y => ?_⟩
    obtain ⟨rfl, rfl⟩ := y
    subst hd
    exact ⟨Grow.refl _ _, rs1, .int _⟩
  · rw [List.getElem?_eq_none (by simpa using Nat.le_of_not_lt hi)] at hd
    simp at hd
/-! ### the rules -/
variable {e a b : Expr} {xa xb : X} {pos p : Pos} {tg : Expr}
theorem snd_src (K : X'.K = c.g.K) (ha : PE X' a (tX c xa)) : PI X' tg a (tI c (.src xa)) := by
  refine ⟨fun pins s σ H R0 I ⟨φ, env, S, src, S', re, rs, ev, k⟩ => ?_⟩
  simp only [evIt] at ev
  obtain ⟨d1, S1, e1, ev⟩ := R.bind_ok_inv ev
  obtain ⟨e2, rfl⟩ := R.of_inv ev
  refine thn (ha.run pins s σ H _ I (go re rs e1 fun φ1 H1 v g1 rs1 re1 r1 => (⟨φ1, g1, rs1, r1⟩ : ∃ φ1, Grow φ H φ1 H1 ∧ RS c.g c.cl φ1 S1 H1 ∧ Rep c.g φ1 H1 v d1))) fun u s1 ⟨v, H1, I1, rv, φ1, g1, rs1, r1⟩ => ?_
  obtain ⟨q, b, rfl, sa⟩ := src_at rs1 r1 e2
  cases rv
  obtain ⟨xs, hq, _⟩ := sa φ1 H1 S1 (Grow.refl _ _).toExt rs1 (srcOf_still e2)
  rw [← K] at hq
  obtain ⟨its, rv, pp, _⟩ := sqk_at I1 hq
  refine (begs b q its.toArray).iter _ _ _ _ s1 _ pp ?_
  have q := k φ1 H1 _ g1 rs1 (serves_seq (X' := X') K sa)
  cases b with
  | true => exact pi_one (tk := s1.toks) I1 _ (turn_tuple _ _) ⟨_, Heap.get?_push_size _ rfl, rfl, rfl⟩ q
  | false => exact pi_one (tk := s1.toks) I1 _ (turn_list _ _) ⟨_, Heap.get?_push_size _ rfl, rfl, rfl⟩ q
theorem snd_rng1 (B : Blt X' "range") (ha : PA X' [a] (tXs c [xa])) (hs : starEach [a] X'.env = [(false, eval a X'.env)]) : PI X' tg (.Call (.Name "range" p) [a] [] pos) (tI c (.rng [xa])) :=
  PI.imp (pi_range1 B.gl B.no ha hs) fun σ H R0 ⟨φ, env, S, src, S', re, rs, ev, k⟩ => by
    simp only [evIt] at ev
    obtain ⟨ds, S1, e1, ev⟩ := R.bind_ok_inv ev
    obtain ⟨e2, rfl⟩ := R.of_inv ev
    obtain ⟨l, e9, rfl⟩ := opt_map_inv e2
    clear e2 ev
    refine gos re rs e1 fun φ1 H1 vs g1 rs1 re1 r1 => ?_
    have hl := evEs_length e1
    match ds, hl, e9, r1 with
    | [d], _, e2, r1 =>
      clear e9
      cases d <;> simp only [rngD, reduceCtorEq] at e2
      split at e2
      · rename_i hb
        cases e2
        obtain ⟨v, rfl, rv⟩ := one_inv r1
        cases rv.int_inv
        exact ⟨_, rfl, by have : -(2 ^ 62 : Int) = -4611686018427387904 := by decide
                          omega, by have : (2 ^ 62 : Int) = 4611686018427387904 := by decide
                                    omega, k φ1 H1 _ g1 rs1 serves_rng⟩
      · cases e2
theorem snd_rng2 (B : Blt X' "range") (ha : PA X' [a, b] (tXs c [xa, xb])) (hs : starEach [a, b] X'.env = [(false, eval a X'.env), (false, eval b X'.env)]) (hs2 : starEach [b] X'.env = [(false, eval b X'.env)]) : PI X' tg (.Call (.Name "range" p) [a, b] [] pos) (tI c (.rng [xa, xb])) :=
  PI.imp (pi_range2 B.gl B.no ha hs hs2) fun σ H R0 ⟨φ, env, S, src, S', re, rs, ev, k⟩ => by
    simp only [evIt] at ev
    obtain ⟨ds, S1, e1, ev⟩ := R.bind_ok_inv ev
    obtain ⟨e2, rfl⟩ := R.of_inv ev
    obtain ⟨l, e9, rfl⟩ := opt_map_inv e2
    clear e2 ev
    refine gos re rs e1 fun φ1 H1 vs g1 rs1 re1 r1 => ?_
    have hl := evEs_length e1
    match ds, hl, e9, r1 with
    | [d, d2], _, e2, r1 =>
      clear e9
      cases d <;> cases d2 <;> simp only [rngD, reduceCtorEq] at e2
      split at e2
      · rename_i hb
        cases e2
        obtain ⟨v, w, rfl, rv, rw'⟩ := two_inv r1
        cases rv.int_inv
        cases rw'.int_inv
        have z1 : -(2 ^ 62 : Int) = -4611686018427387904 := by decide
        have z2 : (2 ^ 62 : Int) = 4611686018427387904 := by decide
        exact ⟨_, _, rfl, by rw [z1, z2]; exact ⟨hb.1.1, hb.1.2, hb.2.1, hb.2.2⟩, k φ1 H1 _ g1 rs1 serves_rng⟩
      · cases e2
theorem snd_enum (K : X'.K = c.g.K) (B : Blt X' "enumerate") {elts : List Expr} {kk : Nat} {tpos : Pos} (ha : PE X' a (tX c xa)) (hs : starEach [a] X'.env = [(false, eval a X'.env)]) : PI X' (.Tuple elts kk tpos) (.Call (.Name "enumerate" p) [a] [] pos) (tI c (.enum xa)) := by
  refine ⟨fun pins s σ H R0 I ⟨φ, env, S, src, S', re, rs, ev, k⟩ => ?_⟩
  simp only [evIt] at ev
  obtain ⟨d1, S1, e1, ev⟩ := R.bind_ok_inv ev
  obtain ⟨e2, rfl⟩ := R.of_inv ev
  obtain ⟨s0, e9, rfl⟩ := opt_map_inv e2
  clear e2
  refine Call_ (ld_blt I B.gl B.no boot_enumerate (PyProof.Rows.callWith_type1 (thn ((snd_cons ha snd_nil hs).run pos pins s σ H (fun vs H1 => ∃ φ1 v, vs = [v] ∧ Grow φ H φ1 H1 ∧ RS c.g c.cl φ1 S1 H1 ∧ Rep c.g φ1 H1 v d1) I
    (gos (ds := [d1]) (S1 := S1) re rs (by simp [evEs, e1]) fun φ1 H1 vs g1 rs1 re1 r1 => by
      obtain ⟨v, rfl, rv⟩ := one_inv r1
      exact ⟨φ1, v, rfl, g1, rs1, rv⟩)) fun us s1 ⟨vs, H1, I1, r1, q1⟩ => ?_) hs rfl))
  obtain ⟨φ1, v, rfl, g1, rs1, rv⟩ := q1
  obtain ⟨q, b, rfl, sa⟩ := src_at rs1 rv e9
  obtain ⟨u, rfl, ru⟩ := vals1 r1
  cases ru
  obtain ⟨xs, hq, _⟩ := sa φ1 H1 S1 (Grow.refl _ _).toExt rs1 (srcOf_still e9)
  rw [← K] at hq
  obtain ⟨its, rv, pp, _⟩ := sqk_at I1 hq
  refine call_enum1 (begs b q its.toArray) pp fun h' he hit hk => wpAny_pyIter_enum he ?_
  have I2 : Inv X' pins σ H1 { s1 with heap := h' } := I1.kept (t' := s1.toks) hk
  refine ⟨s1.heap.objs.size + 1, [s1.heap.objs.size + 1, s1.heap.objs.size], _, _, H1, rfl, I2, turn_enumG b q (s1.heap.objs.size + 1) s1.heap.objs.size, ⟨⟨.none, he⟩, II.new hit, Nat.succ_ne_self _⟩, fun b hb => ?_, k φ1 H1 _ g1 rs1 (serves_enum (X' := X') K sa)⟩
  have e' : b = s1.heap.objs.size + 1 ∨ b = s1.heap.objs.size := by simpa using hb
  have hle : s1.heap.objs.size ≤ b := by
    rcases e' with z | z
    · rw [z]; exact Nat.le_add_right _ _
    · rw [z]; exact Nat.le_refl _
  exact I1.fpOk hle (I1.hok.fresh hle)
theorem IS.lt {b : Bool} {a : Addr} {its : Array Value} {h : Heap} (x : IS b a its h) : a < h.objs.size := by
  obtain ⟨o, e, _⟩ := x.obj
  exact Heap.lt_size e
theorem snd_zip2 (K : X'.K = c.g.K) (B : Blt X' "zip") {elts : List Expr} {kk : Nat} {tpos : Pos} (ha : PA X' [a, b] (tXs c [xa, xb])) (hs : starEach [a, b] X'.env = [(false, eval a X'.env), (false, eval b X'.env)]) (hs2 : starEach [b] X'.env = [(false, eval b X'.env)]) :
    PI X' (.Tuple elts kk tpos) (.Call (.Name "zip" p) [a, b] [] pos) (tI c (.zip [xa, xb])) := by
  refine ⟨fun pins s σ H R0 I ⟨φ, env, S, src, S', re, rs, ev, k⟩ => ?_⟩
  simp only [evIt] at ev
  obtain ⟨ds, S1, e1, ev⟩ := R.bind_ok_inv ev
  have hl := evEs_length e1
  match ds, hl, e1, ev with
  | [d1, d2], _, e1, ev =>
  simp only at ev
  split at ev
  · rename_i s01 s02 e2 e3
    cases ev
    refine Call_ (ld_blt I B.gl B.no boot_zip (PyProof.Rows.callWith_type1 (thn (ha.run pos pins s σ H (fun vs H1 => ∃ φ1 v w, vs = [v, w] ∧ Grow φ H φ1 H1 ∧ RS c.g c.cl φ1 S' H1 ∧ Rep c.g φ1 H1 v d1 ∧ Rep c.g φ1 H1 w d2) I
      (gos re rs e1 fun φ1 H1 vs g1 rs1 re1 r1 => by
        obtain ⟨v, w, rfl, rv, rw'⟩ := two_inv r1
        exact ⟨φ1, v, w, rfl, g1, rs1, rv, rw'⟩)) fun us s1 ⟨vs, H1, I1, r1, q1⟩ => ?_) (by rw [hs, hs2]) (by rw [hs2]; rfl)))
    obtain ⟨φ1, v, w, rfl, g1, rs1, rv, rw'⟩ := q1
    obtain ⟨q, b1, rfl, sa⟩ := src_at rs1 rv e2
    obtain ⟨q2, b2, rfl, sa2⟩ := src_at rs1 rw' e3
    cases r1 with
    | cons ru r1 =>
      obtain ⟨u2, rfl, ru2⟩ := vals1 r1
      cases ru
      cases ru2
      obtain ⟨xs, hq, _⟩ := sa φ1 H1 S' (Grow.refl _ _).toExt rs1 (srcOf_still e2)
      obtain ⟨ys, hq2, _⟩ := sa2 φ1 H1 S' (Grow.refl _ _).toExt rs1 (srcOf_still e3)
      rw [← K] at hq hq2
      obtain ⟨its, rv, pp, _⟩ := sqk_at I1 hq
      obtain ⟨its2, rv2, pp2, _⟩ := sqk_at I1 hq2
      refine zip_begins2 (begs b1 q its.toArray) (begs b2 q2 its2.toArray) pp pp2 fun h' hz hTI hTO h1 h2 hsz hk => wpAny_pyIter_zip hz ?_
      have I2 : Inv X' pins σ H1 { s1 with heap := h' } := I1.kept (t' := s1.toks) hk
      refine ⟨_, _, _, _, H1, rfl, I2, turn_zipG b1 b2 s1.heap.objs.size q q2 pp.lt pp2.lt, ⟨hz, hTI, ⟨_, _, hTO⟩, II.new h1, II.new h2⟩, fun b hb => ?_, k φ1 H1 _ g1 rs1 (serves_zip2 (X' := X') K sa sa2)⟩
      have hle : s1.heap.objs.size ≤ b := by
        simp only [List.mem_cons, List.not_mem_nil, or_false] at hb
        rcases hb with z | z | z | z | z <;> rw [z] <;> first | exact Nat.le_refl _ | exact Nat.le_add_right _ _
      exact I1.fpOk hle (I1.hok.fresh hle)
  · cases ev
theorem snd_zip3 (K : X'.K = c.g.K) (B : Blt X' "zip") {e3 : Expr} {xc : X} {elts : List Expr} {kk : Nat} {tpos : Pos} (ha : PA X' [a, b, e3] (tXs c [xa, xb, xc])) (hs : starEach [a, b, e3] X'.env = [(false, eval a X'.env), (false, eval b X'.env), (false, eval e3 X'.env)]) (hs2 : starEach [b, e3] X'.env = [(false, eval b X'.env), (false, eval e3 X'.env)]) :
    PI X' (.Tuple elts kk tpos) (.Call (.Name "zip" p) [a, b, e3] [] pos) (tI c (.zip [xa, xb, xc])) := by
  refine ⟨fun pins s σ H R0 I ⟨φ, env, S, src, S', re, rs, ev, k⟩ => ?_⟩
  simp only [evIt] at ev
  obtain ⟨ds, S1, e1, ev⟩ := R.bind_ok_inv ev
  have hl := evEs_length e1
  match ds, hl, e1, ev with
  | [d1, d2, d3], _, e1, ev =>
  simp only at ev
  split at ev
  · rename_i s01 s02 s03 e2 e3 e4
    cases ev
    refine Call_ (ld_blt I B.gl B.no boot_zip (PyProof.Rows.callWith_type1 (thn (ha.run pos pins s σ H (fun vs H1 => ∃ φ1 v w u, vs = [v, w, u] ∧ Grow φ H φ1 H1 ∧ RS c.g c.cl φ1 S' H1 ∧ Rep c.g φ1 H1 v d1 ∧ Rep c.g φ1 H1 w d2 ∧ Rep c.g φ1 H1 u d3) I
      (gos re rs e1 fun φ1 H1 vs g1 rs1 re1 r1 => by
        cases r1 with
        | cons rv r1 =>
          obtain ⟨w, u, rfl, rw', ru⟩ := two_inv r1
          exact ⟨φ1, _, w, u, rfl, g1, rs1, rv, rw', ru⟩)) fun us s1 ⟨vs, H1, I1, r1, q1⟩ => ?_) (by rw [hs, hs2]) (by rw [hs2]; rfl)))
    obtain ⟨φ1, v, w, u, rfl, g1, rs1, rv, rw', ru'⟩ := q1
    obtain ⟨q, b1, rfl, sa⟩ := src_at rs1 rv e2
    obtain ⟨q2, b2, rfl, sa2⟩ := src_at rs1 rw' e3
    obtain ⟨q3, b3, rfl, sa3⟩ := src_at rs1 ru' e4
    cases r1 with
    | cons ru r1 =>
      cases r1 with
      | cons ru2 r1 =>
      obtain ⟨u3, rfl, ru3⟩ := vals1 r1
      cases ru
      cases ru2
      cases ru3
      obtain ⟨xs, hq, _⟩ := sa φ1 H1 S' (Grow.refl _ _).toExt rs1 (srcOf_still e2)
      obtain ⟨ys, hq2, _⟩ := sa2 φ1 H1 S' (Grow.refl _ _).toExt rs1 (srcOf_still e3)
      obtain ⟨zs, hq3, _⟩ := sa3 φ1 H1 S' (Grow.refl _ _).toExt rs1 (srcOf_still e4)
      rw [← K] at hq hq2 hq3
      obtain ⟨its, rv, pp, _⟩ := sqk_at I1 hq
      obtain ⟨its2, rv2, pp2, _⟩ := sqk_at I1 hq2
      obtain ⟨its3, rv3, pp3, _⟩ := sqk_at I1 hq3
      refine zip_begins3 (begs b1 q its.toArray) (begs b2 q2 its2.toArray) (begs b3 q3 its3.toArray) pp pp2 pp3 fun h' hz hTI hTO h1 h2 h3 hsz hk => wpAny_pyIter_zip hz ?_
      have I2 : Inv X' pins σ H1 { s1 with heap := h' } := I1.kept (t' := s1.toks) hk
      refine ⟨_, _, _, _, H1, rfl, I2, turn_zip3G b1 b2 b3 s1.heap.objs.size q q2 q3 pp.lt pp2.lt pp3.lt, ⟨hz, hTI, ⟨_, _, _, hTO⟩, II.new h1, II.new h2, II.new h3⟩, fun b hb => ?_, k φ1 H1 _ g1 rs1 (serves_zip3 (X' := X') K sa sa2 sa3)⟩
      have hle : s1.heap.objs.size ≤ b := by
        simp only [List.mem_cons, List.not_mem_nil, or_false] at hb
        rcases hb with z | z | z | z | z | z <;> rw [z] <;> first | exact Nat.le_refl _ | exact Nat.le_add_right _ _
      exact I1.fpOk hle (I1.hok.fresh hle)
  · cases ev
end
end Rx

set_option Elab.async false
set_option autoImplicit false
set_option linter.all false
set_option maxRecDepth 100000
set_option maxHeartbeats 1000000
/-! Rx14: targets of loops, comprehensions. -/
namespace Rx
open PySem PySem.Spec PyProof.Rows L2
mutual
/-- the slots that a target stores into -/
def Pt.slots : Pt → List Nat
  | .nm i => [i]
  | .tup l => Pt.slotss l
def Pt.slotss : List Pt → List Nat
  | [] => []
  | p :: l => p.slots ++ Pt.slotss l
end
/-- σ' differs from σ at the slots vs alone -/
def SameOut (vs : List Nat) (σ σ' : L2.St) : Prop := σ'.length = σ.length ∧ ∀ i, i ∉ vs → σ'[i]? = σ[i]?
theorem SameOut.refl (vs : List Nat) (σ : L2.St) : SameOut vs σ σ := ⟨rfl, fun _ _ => rfl⟩
theorem SameOut.trans {vs : List Nat} {σ σ1 σ2 : L2.St} (a : SameOut vs σ σ1) (b : SameOut vs σ1 σ2) : SameOut vs σ σ2 := ⟨b.1.trans a.1, fun i h => (b.2 i h).trans (a.2 i h)⟩
theorem SameOut.mono {vs ws : List Nat} {σ σ1 : L2.St} (a : SameOut vs σ σ1) (h : ∀ i ∈ vs, i ∈ ws) : SameOut ws σ σ1 := ⟨a.1, fun i k => a.2 i fun z => k (h i z)⟩
theorem SameOut.set {vs : List Nat} {σ : L2.St} {i : Nat} {v : Option V} (h : i ∈ vs) : SameOut vs σ (σ.set i v) := ⟨List.length_set .., fun j hj => List.getElem?_set_ne (fun e : i = j => hj (by rw [← e]; exact h))⟩
theorem wipe_get {σ : L2.St} {i : Nat} : ∀ {vs : List Nat}, i ∈ vs → (wipe σ vs)[i]? = if i < σ.length then some none else none
  | [], h => by simp at h
  | v :: vs, h => by
    unfold wipe
    by_cases e : v = i
    · subst e
      by_cases hl : v < σ.length
      · rw [if_pos hl, List.getElem?_set_self (by rw [wipe_length]; exact hl)]
      · rw [if_neg hl, List.getElem?_eq_none (by simp [wipe_length]; omega)]
    · rw [List.getElem?_set_ne e]
      exact wipe_get (by simpa [Ne.symm e] using h)
theorem wipe_same {σ σ' : L2.St} {vs : List Nat} (h : SameOut vs σ σ') : wipe σ' vs = wipe σ vs := by
  refine List.ext_getElem? fun i => ?_
  by_cases hi : i ∈ vs
  · rw [wipe_get hi, wipe_get hi, h.1]
  · rw [wipe_out hi, wipe_out hi, h.2 i hi]
theorem wipe_out_same {σ : L2.St} (vs : List Nat) : SameOut vs σ (wipe σ vs) := ⟨wipe_length _ _, fun i hi => wipe_out hi⟩
theorem wipe_wipe {σ : L2.St} (vs : List Nat) : wipe (wipe σ vs) vs = wipe σ vs := wipe_same (wipe_out_same vs)
section
variable {c : Cfg} {X' : Cx} {φ : List Addr} {env : Env} {S S1 : List O} {σ : L2.St} {H : Hp}
theorem RelE.wipe (r : RelE c.g φ H env σ) : ∀ vs : List Nat, RelE c.g φ H (wipeE env vs) (wipe σ vs)
  | [] => r
  | v :: vs => by
    have q := r.wipe vs
    unfold wipeE L2.wipe
    refine ⟨by simp [q.len], fun i d h => ?_⟩
    by_cases e : v = i
    · subst e
      by_cases hl : v < (wipeE env vs).length
      · rw [List.getElem?_set_self hl] at h; cases h
      · rw [List.getElem?_eq_none (by simpa using hl)] at h; cases h
    · rw [List.getElem?_set_ne e] at h ⊢
      exact q.at_ i d h
theorem RelE.ext {φ' : List Addr} {H' : Hp} (r : RelE c.g φ H env σ) (e : Ext φ H φ' H') : RelE c.g φ' H' env σ := ⟨r.len, fun i d h => let ⟨v, a, b⟩ := r.at_ i d h; ⟨v, a, Rep.ext e d v b⟩⟩
/-- the reading of a target -/
def tG (c : Cfg) (p : Pt) : TG := fun v σ H Q => ∃ φ env S d env', RelE c.g φ H env σ ∧ RS c.g c.cl φ S H ∧ Rep c.g φ H v d ∧ p.put d env = some env' ∧
  ∀ σ', RelE c.g φ H env' σ' → SameOut p.slots σ σ' → Q σ' H
def tGs (c : Cfg) (p : List Pt) : TGs := fun vs σ H Q => ∃ φ env S ds env', RelE c.g φ H env σ ∧ RS c.g c.cl φ S H ∧ RepL c.g φ H vs ds ∧ Pt.puts p ds env = some env' ∧
  ∀ σ', RelE c.g φ H env' σ' → SameOut (Pt.slotss p) σ σ' → Q σ' H
theorem PG.imp {e : Expr} {t t' : TG} (h : PG X' e t) (i : ∀ v σ H Q, t' v σ H Q → t v σ H Q) : PG X' e t' := ⟨fun pins s σ H v u Q I r q => h.run pins s σ H v u Q I r (i v σ H Q q)⟩
theorem PGs.imp {e : List Expr} {t t' : TGs} (h : PGs X' e t) (i : ∀ v σ H Q, t' v σ H Q → t v σ H Q) : PGs X' e t' := ⟨fun pins s σ H v u Q I r q => h.run pins s σ H v u Q I r (i v σ H Q q)⟩
theorem puts_nil {ds : List D} {env env' : Env} (h : Pt.puts [] ds env = some env') : ds = [] ∧ env' = env := by
  cases ds with
  | nil => simp only [Pt.puts, Option.some.injEq] at h; exact ⟨rfl, h.symm⟩
  | cons _ _ => simp [Pt.puts] at h
theorem puts_cons {p : Pt} {l : List Pt} {ds : List D} {env env' : Env} (h : Pt.puts (p :: l) ds env = some env') : ∃ d r e1, ds = d :: r ∧ p.put d env = some e1 ∧ Pt.puts l r e1 = some env' := by
  cases ds with
  | nil => simp [Pt.puts] at h
  | cons d r =>
    simp only [Pt.puts, Option.bind_eq_some_iff] at h
    obtain ⟨e1, h1, h2⟩ := h
    exact ⟨d, r, e1, rfl, h1, h2⟩
variable {e : Expr} {es : List Expr} {pos : Pos}
theorem snd_nm {i : Nat} {x : Str} (hN : X'.N.Nodup) (hi : X'.N[i]? = some x) (hx : Loc X'.env.scope x) (hf : X'.fn x = true ∨ X'.env.scope.names.lookup x = some .local) : PG X' (.Name x pos) (tG c (.nm i)) :=
  PG.imp (pg_name hN hi hx hf) fun v σ H Q ⟨φ, env, S, d, env', re, rs, r, hp, k⟩ => by
    simp only [Pt.put, Option.some.injEq] at hp
    subst hp
    exact k _ (re.set i r) (SameOut.set (by simp [Pt.slots]))
theorem snd_gnil : PGs X' [] (tGs c []) := PGs.imp pgs_nil fun v σ H Q ⟨φ, env, S, ds, env', re, rs, r, hp, k⟩ => by
  obtain ⟨rfl, rfl⟩ := puts_nil hp
  cases r
  exact ⟨rfl, k σ re (SameOut.refl _ _)⟩
theorem snd_gcons {p : Pt} {l : List Pt} (h1 : PG X' e (tG c p)) (h2 : PGs X' es (tGs c l)) (hs : (assignEach (e :: es) X'.env).map (·.2) = assign e X'.env :: (assignEach es X'.env).map (·.2)) : PGs X' (e :: es) (tGs c (p :: l)) :=
  PGs.imp (pgs_cons h1 h2 hs) fun v σ H Q ⟨φ, env, S, ds, env', re, rs, r, hp, k⟩ => by
    obtain ⟨d, ds', e1, rfl, hp1, hp2⟩ := puts_cons hp
    cases r with
    | cons r1 r2 =>
      refine ⟨_, _, rfl, φ, env, S, d, e1, re, rs, r1, hp1, fun σ1 re1 s1 => ⟨φ, e1, S, ds', env', re1, rs, r2, hp2, fun σ2 re2 s2 => k σ2 re2 ((s1.mono fun i hi => ?_).trans (s2.mono fun i hi => ?_))⟩⟩
      · simp [Pt.slotss, hi]
      · simp [Pt.slotss, hi]
theorem puts_length : ∀ {l : List Pt} {ds : List D} {env env' : Env}, Pt.puts l ds env = some env' → ds.length = l.length
  | [], ds, _, _, h => by obtain ⟨rfl, _⟩ := puts_nil h; rfl
  | p :: l, ds, _, _, h => by
    obtain ⟨d, r, e1, rfl, _, h2⟩ := puts_cons h
    simp [puts_length h2]
theorem snd_gtup {l : List Pt} {kk : Nat} (K : X'.K = c.g.K) (hc : X'.calm = true) (h : PGs X' es (tGs c l)) (hn : (assignEach es X'.env).length = l.length) (hst : (assignEach es X'.env).findIdx? (·.1) = none) : PG X' (.Tuple es kk pos) (tG c (.tup l)) :=
  PG.imp (pg_tup hc h hn hst) fun v σ H Q ⟨φ, env, S, d, env', re, rs, r, hp, k⟩ => by
    cases d <;> simp only [Pt.put, reduceCtorEq] at hp
    obtain ⟨a, xs, rfl, hq, rx⟩ := tup_inv r
    exact ⟨a, xs, rfl, by rw [K]; exact hq, by rw [rx.length, puts_length hp], φ, env, S, _, env', re, rs, rx, hp, fun σ' re' so => k σ' re' so⟩
/-! ### tests of a clause -/
def tXi (c : Cfg) (xs : List X) : TT := fun σ H Q => ∃ φ env S k S', RelE c.g φ H env σ ∧ RS c.g c.cl φ S H ∧ evIfs c.cf c.cs xs env S = .ok k S' ∧ ∀ φ' H', Grow φ H φ' H' → RS c.g c.cl φ' S' H' → Q k H'
theorem PTs.imp {e : List Expr} {t t' : TT} (h : PTs X' e t) (i : ∀ σ H Q, t' σ H Q → t σ H Q) : PTs X' e t' := ⟨fun pins s σ H Q I q => h.run pins s σ H Q I (i σ H Q q)⟩
theorem snd_i0 : PTs X' [] (tXi c []) := PTs.imp pts_nil fun σ H Q ⟨φ, env, S, k, S', re, rs, ev, q⟩ => by
  simp only [evIfs] at ev
  cases ev
  exact q φ H (Grow.refl _ _) rs
theorem snd_i1 {x : X} (h : PT X' e (tXt c x)) : PTs X' [e] (tXi c [x]) := PTs.imp (pts_one h) fun σ H Q ⟨φ, env, S, k, S', re, rs, ev, q⟩ => by
  simp only [evIfs] at ev
  obtain ⟨d, S1, e1, ev⟩ := R.bind_ok_inv ev
  obtain ⟨t, S2, e2, ev⟩ := R.bind_ok_inv ev
  obtain ⟨e3, rfl⟩ := R.of_inv e2
  refine ⟨φ, env, S, d, S1, t, re, rs, e1, e3, fun φ' H' g rs' => ?_⟩
  cases t with
  | true => simp only [if_true] at ev; cases ev; exact q φ' H' g rs'
  | false => simp only [Bool.false_eq_true, if_false] at ev; cases ev; exact q φ' H' g rs'
/-! ### comprehensions -/
theorem compLL_still {src : Src} {turn : D → List O → R (List D)} {l : List D} {r : List D} {S' : List O} (h : compLL src turn l S = .ok r S') : src.still S = true := by
  cases l <;> simp only [compLL] at h <;> split at h <;> first | assumption | cases h
theorem compL_LL {src : Src} {turn : D → List O → R (Option D)} : ∀ {l : List D} {S : List O} {r : List D} {S' : List O}, compL src turn l S = .ok r S' → compLL src (fun d S => (turn d S).bind fun o S => .ok o.toList S) l S = .ok r S'
  | [], S, r, S', h => h
  | d :: l, S, r, S', h => by
    simp only [compL] at h
    split at h
    · rename_i hs
      obtain ⟨o, S2, e1, h⟩ := R.bind_ok_inv h
      obtain ⟨q, S3, e2, h⟩ := R.bind_ok_inv h
      cases h
      simp only [compLL, hs, if_true, e1, R.bind_ok, compL_LL e2]
      cases o <;> rfl
    · cases h
/-- a source's turns: the list stands at p -/
theorem go_any {src : Src} {turn : D → List O → R (List D)} {φ0 φs : List Addr} {H0 Hs : Hp} {p : Addr} {J : It} {body : V → Hp → (Hp → Prop) → Prop} {Qd : Hp → Prop} {l done0 : List D} {xs0 : List V} {S' : List O}
    (hp0 : H0 p = none) (gs : Grow φ0 H0 φs Hs) (hsv : Serves c φs Hs src J) (ev : compLL src turn src.list S = .ok l S') (rs0 : RS c.g c.cl φs S Hs) (hx0 : Hs p = some (.lst xs0)) (rx0 : RepL c.g φs Hs xs0 done0) (hpx : p ∉ φs) (hz : done0.length + l.length ≤ sizeLine)
    (step : ∀ φ H x d S o S1 xs done (Nx : Hp → Prop), Grow φ0 H0 φ H → Ext φs Hs φ H → RS c.g c.cl φ S H → Rep c.g φ H x d → turn d S = .ok o S1 → H p = some (.lst xs) → RepL c.g φ H xs done → p ∉ φ → done.length + o.length ≤ sizeLine →
      (∀ φ' H' xs', Grow φ0 H0 φ' H' → Ext φ H φ' H' → RS c.g c.cl φ' S1 H' → RepL c.g φ' H' xs' (done ++ o) → H' p = some (.lst xs') → p ∉ φ' → Nx H') → body x H Nx)
    (hd : ∀ φ' H' xs, Grow φ0 H0 φ' H' → Ext φs Hs φ' H' → RS c.g c.cl φ' S' H' → RepL c.g φ' H' xs (done0 ++ l) → H' p = some (.lst xs) → p ∉ φ' → Qd H') :
    ∃ W : Nat → Nat → Hp → Prop, (∃ m, W 0 m Hs) ∧ ∀ i m H, W i m H →
      (J.stop i H ∧ Qd H) ∨ (J.go i H ∧ ∃ Nx : Hp → Prop, (∀ H', Nx H' → ∃ m', m' < m ∧ W (i + 1) m' H') ∧ ∀ x H', J.yld i H x H' → body x H' Nx) := by
  refine ⟨fun i m H => m = src.list.length - i ∧ ∃ φ S1 done rest xs, src.list.drop i = rest ∧ i ≤ src.list.length ∧ Grow φ0 H0 φ H ∧ Ext φs Hs φ H ∧ RS c.g c.cl φ S1 H ∧ RepL c.g φ H xs done ∧ H p = some (.lst xs) ∧ p ∉ φ ∧
    ∃ l2, compLL src turn rest S1 = .ok l2 S' ∧ done0 ++ l = done ++ l2, ⟨src.list.length, by simp, φs, S, done0, src.list, xs0, rfl, Nat.zero_le _, gs, (Grow.refl _ _).toExt, rs0, rx0, hx0, hpx, l, ev, rfl⟩, ?_⟩
  rintro i m H ⟨rfl, φ, S1, done, rest, xs, hdrop, hi, gr, ex, rs, rx, hH, hpφ, l2, ev2, hl⟩
  have st := compLL_still ev2
  obtain ⟨sv1, sv2⟩ := hsv i φ H S1 ex rs st
  cases rest with
  | nil =>
    have hi' : i = src.list.length := by
      have := congrArg List.length hdrop
      simp at this; omega
    simp only [compLL, st, if_true] at ev2
    cases ev2
    refine .inl ⟨sv2 hi', hd φ H xs gr ex rs (by rw [hl, List.append_nil]; exact rx) hH hpφ⟩
  | cons d rest =>
    have hlt : i < src.list.length := by
      have := congrArg List.length hdrop
      simp at this; omega
    have hget : src.list[i]? = some d := by
      have : (src.list.drop i)[0]? = some d := by rw [hdrop]; rfl
      rw [List.getElem?_drop] at this
      simpa using this
    have hdrop' : src.list.drop (i + 1) = rest := by
      rw [← List.drop_drop, hdrop]; rfl
    simp only [compLL, st, if_true] at ev2
    obtain ⟨o, S2, e1, ev2⟩ := R.bind_ok_inv ev2
    obtain ⟨r, S3, e2, ev2⟩ := R.bind_ok_inv ev2
    cases ev2
    obtain ⟨go, yl⟩ := sv1 d hget
    refine .inr ⟨go, fun H' => ∃ φ' xs', Grow φ0 H0 φ' H' ∧ Ext φs Hs φ' H' ∧ RS c.g c.cl φ' S2 H' ∧ RepL c.g φ' H' xs' (done ++ o) ∧ H' p = some (.lst xs') ∧ p ∉ φ', fun H' nx => ?_, fun x H' y => ?_⟩
    · obtain ⟨φ', xs', g', ex', rs', rx', hH', hp'⟩ := nx
      exact ⟨_, by omega, rfl, φ', S2, done ++ o, rest, xs', hdrop', hlt, g', ex', rs', rx', hH', hp', r, e2, by rw [hl]; simp⟩
    · obtain ⟨g2, rs2, rd⟩ := yl x H' y
      have hH' : H' p = some (.lst xs) := g2.keep p _ hH hpφ
      have hlen : done.length + o.length ≤ sizeLine := by
        have := congrArg List.length hl
        simp at this
        omega
      refine step φ H' x d S1 o S2 xs done _ (gr.trans g2) (ex.trans g2.toExt) rs2 rd e1 hH' (RepL.mono g2 _ _ rx) hpφ hlen fun φ' H'' xs' g3 ex3 rs3 rx3 h3 hp3 => ⟨φ', xs', g3, (ex.trans g2.toExt).trans ex3, rs3, rx3, h3, hp3⟩
/-- one more item on the list -/
theorem put_one {φ φ' : List Addr} {H0 H' : Hp} {p : Addr} {xs : List V} {done : List D} {v : V} {y : D} (hp0 : H0 p = none) (g : Grow φ H0 φ' H') (rs : RS c.g c.cl φ' S H') (rx : RepL c.g φ' H' xs done) (hH : H' p = some (.lst xs)) (hp : p ∉ φ') (r : Rep c.g φ' H' v y) :
    Grow φ H0 φ' (upd H' p (.lst (xs ++ [v]))) ∧ Ext φ' H' φ' (upd H' p (.lst (xs ++ [v]))) ∧ RS c.g c.cl φ' S (upd H' p (.lst (xs ++ [v]))) ∧ RepL c.g φ' (upd H' p (.lst (xs ++ [v]))) (xs ++ [v]) (done ++ [y]) := by
  have ex : Ext φ' H' φ' (upd H' p (.lst (xs ++ [v]))) := Ext.lock hH
  exact ⟨g.lock hp0, ex, rs.locked hH hp, (RepL.ext ex _ _ rx).append (.cons (Rep.ext ex _ _ r) .nil)⟩
/-- what stands aside stays -/
theorem aside {φ φ' : List Addr} {H H' : Hp} {p : Addr} {xs : List V} (g : Grow φ H φ' H') (hH : H p = some (.lst xs)) (hp : p ∉ φ) : H' p = some (.lst xs) ∧ p ∉ φ' := by
  refine ⟨g.keep p _ hH hp, fun z => ?_⟩
  rcases g.nw p z with q | q
  · exact hp q
  · rw [hH] at q; cases q
variable {elt tg iter tg1 iter1 : Expr} {ifs ifs1 : List Expr} {scope : Scope} {own : List (Str × Nat)} {elx : X} {p p1 : Pt} {it it1 : I} {cs cs1 : List X}
theorem rd_comp : ∀ σ H Q, tCx c (.comp (own.map (·.2)) elx p it cs) σ H Q → (∀ i ∈ p.slots, i ∈ own.map (·.2)) → tLc (tI c it) (tG c p) (tXi c cs) (tX c elx) (own.map (·.2)) σ H Q := by
  intro σ H Q ⟨φ, env, S, l, S', re, rs, ev, k⟩ hps
  simp only [evC] at ev
  obtain ⟨src, S1, e1, ev⟩ := R.bind_ok_inv ev
  obtain ⟨l', S2, e2, ev⟩ := R.bind_ok_inv ev
  split at ev
  · rename_i hz
    cases ev
    refine ⟨φ, env, S, src, S1, re, rs, e1, fun φ1 H1 J g1 rs1 sv => fun D hD => ?_⟩
    have hDφ := rs1.free hD
    have g2 : Grow φ1 H1 φ1 (upd H1 D (.lst [])) := Grow.new hD
    refine go_any (body := fun x H' Nx => tG c p x (wipe σ (own.map (·.2))) H' fun σ2 H2 => wipe σ2 (own.map (·.2)) = wipe σ (own.map (·.2)) ∧ tXi c cs σ2 H2 fun b H3 =>
        if b = true then tX c elx σ2 H3 fun y H4 => ∃ acc, H4 D = some (.lst acc) ∧ acc.length < sizeLine ∧ Nx (upd H4 D (.lst (acc ++ [y]))) else Nx H3)
      hD g2 (fun i φ' H' S'' ex => sv i φ' H' S'' (g2.toExt.trans ex)) (compL_LL e2) (rs1.new hD) upd_same .nil hDφ (by have := szOk_le hz; simpa using this) ?_ ?_
    · intro φ2 H2 x d S3 o S4 xs done Nx gr _ rs2 rd ht hH rx hp hlen nx
      obtain ⟨o', S5, ht, ht2⟩ := R.bind_ok_inv ht
      cases ht2
      split at ht
      · rename_i env' hput
        refine ⟨φ2, _, S3, d, env', (re.mono (g1.trans gr)).wipe (own.map (·.2)), rs2, rd, hput, fun σ2 re2 so => ⟨?_, ?_⟩⟩
        · rw [wipe_same (so.mono hps), wipe_wipe]
        obtain ⟨t, S6, ht1, ht2⟩ := R.bind_ok_inv ht
        refine ⟨φ2, env', S3, t, S6, re2, rs2, ht1, fun φ3 H3 g3 rs3 => ?_⟩
        cases t with
        | false =>
          simp only [Bool.false_eq_true, if_false] at ht2 ⊢
          cases ht2
          obtain ⟨h3, hp3⟩ := aside g3 hH hp
          exact nx φ3 H3 xs (gr.trans g3) g3.toExt rs3 (by simpa using RepL.mono g3 _ _ rx) h3 hp3
        | true =>
          simp only [if_true] at ht2 ⊢
          obtain ⟨y, S7, ht3, ht4⟩ := R.bind_ok_inv ht2
          cases ht4
          refine go (re2.mono g3) rs3 ht3 fun φ4 H4 v g4 rs4 re4 rv => ?_
          obtain ⟨h4, hp4⟩ := aside (g3.trans g4) hH hp
          have rx4 := RepL.mono (g3.trans g4) _ _ rx
          obtain ⟨a1, a2, a3, a4⟩ := put_one hD (gr.trans (g3.trans g4)) rs4 rx4 h4 hp4 rv
          refine ⟨xs, h4, ?_, nx φ4 _ (xs ++ [v]) a1 ((g3.trans g4).toExt.trans a2) a3 a4 upd_same hp4⟩
          rw [rx4.length]
          simp at hlen
          omega
      · cases ht
    · intro φ' H' xs g' _ rs' rx hH hp
      exact k φ' H' D xs (g1.trans g') rs' (by simpa using rx) (fresh_before g1 rs1 hD) hH hp
  · cases ev
theorem rd_comp2 {own1 : List Nat} : ∀ σ H Q, tCx c (.comp2 (own.map (·.2)) elx p it cs own1 p1 it1 cs1) σ H Q → (∀ i ∈ p.slots, i ∈ own.map (·.2)) → (∀ i ∈ p1.slots, i ∈ own1) →
    tLc2 (tI c it) (tG c p) (tXi c cs) (tI c it1) (tG c p1) (tXi c cs1) (tX c elx) (own.map (·.2)) own1 σ H Q := by
  intro σ H Q ⟨φ, env, S, l, S', re, rs, ev, k⟩ hps hps1
  simp only [evC] at ev
  obtain ⟨src, S1, e1, ev⟩ := R.bind_ok_inv ev
  obtain ⟨l', S2, e2, ev⟩ := R.bind_ok_inv ev
  split at ev
  · rename_i hz
    cases ev
    refine ⟨φ, env, S, src, S1, re, rs, e1, fun φ1 H1 J g1 rs1 sv => fun D hD => ?_⟩
    have hDφ := rs1.free hD
    have g2 : Grow φ1 H1 φ1 (upd H1 D (.lst [])) := Grow.new hD
    refine go_any (body := fun x H' Nx => tG c p x (wipe σ (own.map (·.2))) H' fun σ2 H2 => wipe σ2 (own.map (·.2)) = wipe σ (own.map (·.2)) ∧ tXi c cs σ2 H2 fun b H3 =>
        if b = true then tI c it1 σ2 H3 fun J1 H4 => ∃ W1 : Nat → Nat → Hp → Prop, (∃ m, W1 0 m H4) ∧ ∀ j k H, W1 j k H →
          (J1.stop j H ∧ Nx H) ∨ (J1.go j H ∧ ∃ Nx1 : Hp → Prop, (∀ H', Nx1 H' → ∃ k', k' < k ∧ W1 (j + 1) k' H') ∧ ∀ x H', J1.yld j H x H' → tG c p1 x (wipe σ2 own1) H' fun σ3 H5 => wipe σ3 own1 = wipe σ2 own1 ∧ tXi c cs1 σ3 H5 fun b H6 =>
            if b = true then tX c elx σ3 H6 fun y H7 => ∃ acc, H7 D = some (.lst acc) ∧ acc.length < sizeLine ∧ Nx1 (upd H7 D (.lst (acc ++ [y]))) else Nx1 H6)
        else Nx H3)
      hD g2 (fun i φ' H' S'' ex => sv i φ' H' S'' (g2.toExt.trans ex)) e2 (rs1.new hD) upd_same .nil hDφ (by have := szOk_le hz; simpa using this) ?_ ?_
    · intro φ2 H2 x d S3 o S4 xs done Nx gr _ rs2 rd ht hH rx hp hlen nx
      split at ht
      · rename_i env' hput
        refine ⟨φ2, _, S3, d, env', (re.mono (g1.trans gr)).wipe (own.map (·.2)), rs2, rd, hput, fun σ2 re2 so => ⟨?_, ?_⟩⟩
        · rw [wipe_same (so.mono hps), wipe_wipe]
        obtain ⟨t, S6, ht1, ht2⟩ := R.bind_ok_inv ht
        refine ⟨φ2, env', S3, t, S6, re2, rs2, ht1, fun φ3 H3 g3 rs3 => ?_⟩
        cases t with
        | false =>
          simp only [Bool.false_eq_true, if_false] at ht2 ⊢
          cases ht2
          obtain ⟨h3, hp3⟩ := aside g3 hH hp
          exact nx φ3 H3 xs (gr.trans g3) g3.toExt rs3 (by simpa using RepL.mono g3 _ _ rx) h3 hp3
        | true =>
          simp only [if_true] at ht2 ⊢
          obtain ⟨src1, S7, ht3, ht4⟩ := R.bind_ok_inv ht2
          refine ⟨φ3, env', S6, src1, S7, re2.mono g3, rs3, ht3, fun φ4 H4 J1 g4 rs4 sv1 => ?_⟩
          obtain ⟨h4, hp4⟩ := aside (g3.trans g4) hH hp
          have rx4 := RepL.mono (g3.trans g4) _ _ rx
          refine go_any (body := fun x H' Nx1 => tG c p1 x (wipe σ2 own1) H' fun σ3 H5 => wipe σ3 own1 = wipe σ2 own1 ∧ tXi c cs1 σ3 H5 fun b H6 =>
              if b = true then tX c elx σ3 H6 fun y H7 => ∃ acc, H7 D = some (.lst acc) ∧ acc.length < sizeLine ∧ Nx1 (upd H7 D (.lst (acc ++ [y]))) else Nx1 H6)
            hD (gr.trans (g3.trans g4)) sv1 (compL_LL ht4) rs4 h4 rx4 hp4 hlen ?_ ?_
          · intro φ5 H5 x5 d5 S8 o5 S9 xs5 done5 Nx5 gr5 ex5 rs5 rd5 ht5 hH5 rx5 hp5 hlen5 nx5
            obtain ⟨o', S10, ht5, ht6⟩ := R.bind_ok_inv ht5
            cases ht6
            split at ht5
            · rename_i env5 hput5
              refine ⟨φ5, _, S8, d5, env5, (((re2.mono (g3.trans g4)).ext ex5).wipe own1), rs5, rd5, hput5, fun σ6 re6 so6 => ⟨?_, ?_⟩⟩
              · rw [wipe_same (so6.mono hps1), wipe_wipe]
              obtain ⟨t6, S11, ht7, ht8⟩ := R.bind_ok_inv ht5
              refine ⟨φ5, env5, S8, t6, S11, re6, rs5, ht7, fun φ6 H6 g6 rs6 => ?_⟩
              cases t6 with
              | false =>
                simp only [Bool.false_eq_true, if_false] at ht8 ⊢
                cases ht8
                obtain ⟨h6, hp6⟩ := aside g6 hH5 hp5
                exact nx5 φ6 H6 xs5 (gr5.trans g6) g6.toExt rs6 (by simpa using RepL.mono g6 _ _ rx5) h6 hp6
              | true =>
                simp only [if_true] at ht8 ⊢
                obtain ⟨y, S12, ht9, ht10⟩ := R.bind_ok_inv ht8
                cases ht10
                refine go (re6.mono g6) rs6 ht9 fun φ7 H7 v g7 rs7 re7 rv => ?_
                obtain ⟨h7, hp7⟩ := aside (g6.trans g7) hH5 hp5
                have rx7 := RepL.mono (g6.trans g7) _ _ rx5
                obtain ⟨a1, a2, a3, a4⟩ := put_one hD (gr5.trans (g6.trans g7)) rs7 rx7 h7 hp7 rv
                refine ⟨xs5, h7, ?_, nx5 φ7 _ (xs5 ++ [v]) a1 ((g6.trans g7).toExt.trans a2) a3 a4 upd_same hp7⟩
                rw [rx7.length]
                simp at hlen5
                omega
            · cases ht5
          · intro φ' H' xs' g' ex' rs' rx' hH' hp'
            exact nx φ' H' xs' g' ((g3.trans g4).toExt.trans ex') rs' rx' hH' hp'
      · cases ht
    · intro φ' H' xs g' _ rs' rx hH hp
      exact k φ' H' D xs (g1.trans g') rs' (by simpa using rx) (fresh_before g1 rs1 hD) hH hp
  · cases ev
end
end Rx

set_option Elab.async false
set_option autoImplicit false
set_option linter.all false
set_option maxRecDepth 100000
set_option maxHeartbeats 1000000
/-! Rx15: methods, instances, list methods, isinstance of several types, reversed copies. -/
namespace Rx
open PySem PySem.Spec PyProof.Rows L2
section
variable {c : Cfg} {X' : Cx} {φ : List Addr} {env : Env} {S S1 : List O} {σ : L2.St} {H : Hp}
variable {e a b o : Expr} {xa xb xo : X} {pos p apos : Pos} {j i np k : Nat} {f : Addr} {x m : Str} {es : List Expr} {xs : List X}
theorem snd_meth {pl : Sem Bool} (K : Cls X'.K (c.cl k)) (M : Meth X'.K (c.cl k) m f) (F : FnF c X' j i np f) (hr : Room j X'.A) (hl : xs.length + 1 = np) (ho : PE X' o (tX c xo)) (h : PA X' (e :: es) (tXs c xs))
    (hs : starEach (e :: es) X'.env = (false, eval e X'.env) :: starEach es X'.env) (hpl : (backTo pos (starEach es X'.env)).any (·.1) = false)
    (ht : eval (.Call (.Attribute o m apos) (e :: es) [] pos) X'.env = (do
      let ov ← eval o X'.env
      standAt apos.atName
      let (f, first) ← holding [ov] (getMethod ov m pl)
      callWith pos f first (backTo pos (starEach (e :: es) X'.env)) (backToKw pos (keywordEach [] X'.env)))) :
    PE X' (.Call (.Attribute o m apos) (e :: es) [] pos) (tX c (.meth xo k i m xs)) := by
  obtain ⟨fd, ps, hn, hb, G⟩ := F.ok
  refine PE.imp (pe_meth ho K M G hr hb .nil pass0 h hs hpl ht) fun σ H Q ⟨φ, env, S, d, S', re, rs, ev, kk⟩ => ?_
  simp only [evE] at ev
  obtain ⟨d1, S1, e1, ev1⟩ := R.bind_ok_inv ev
  clear ev
  split at ev1
  · rename_i n
    split at ev1
    · rename_i c' fs hn'
      split at ev1
      · rename_i hc
        obtain ⟨rfl, hlk⟩ := hc
        obtain ⟨l, S2, e2, ev⟩ := R.bind_ok_inv ev1
        refine go re rs e1 fun φ1 H1 v g1 rs1 re1 r1 => ?_
        obtain ⟨q, dx, gs, rfl, h1, h2, h3, h4⟩ := ins_inv rs1 r1 hn'
        refine ⟨q, dx, gs, rfl, h2, lookup_none h3 hlk, gos re1 rs1 e2 fun φ2 H2 vs g2 rs2 re2 r2 => ?_⟩
        rw [List.append_nil]
        exact sp_of (by simp [evEs_length e2]; omega) rs2 (.cons (Rep.mono g2 _ _ r1) r2) ev (g1.trans g2) kk
      · cases ev1
    · cases ev1
  · cases ev1
theorem snd_meth0 {pl : Sem Bool} (K : Cls X'.K (c.cl k)) (M : Meth X'.K (c.cl k) m f) (F : FnF c X' j i 1 f) (hr : Room j X'.A) (ho : PE X' o (tX c xo))
    (ht : eval (.Call (.Attribute o m apos) [] [] pos) X'.env = (do
      let ov ← eval o X'.env
      standAt apos.atName
      let (f, first) ← holding [ov] (getMethod ov m pl)
      callWith pos f first (backTo pos (starEach [] X'.env)) (backToKw pos (keywordEach [] X'.env)))) :
    PE X' (.Call (.Attribute o m apos) [] [] pos) (tX c (.meth xo k i m [])) := by
  obtain ⟨fd, ps, hn, hb, G⟩ := F.ok
  refine PE.imp (pe_meth0 ho K M G hr hb .nil pass0 ht) fun σ H Q ⟨φ, env, S, d, S', re, rs, ev, kk⟩ => ?_
  simp only [evE] at ev
  obtain ⟨d1, S1, e1, ev1⟩ := R.bind_ok_inv ev
  clear ev
  split at ev1
  · rename_i n
    split at ev1
    · rename_i c' fs hn'
      split at ev1
      · rename_i hc
        obtain ⟨rfl, hlk⟩ := hc
        obtain ⟨l, S2, e2, ev⟩ := R.bind_ok_inv ev1
        simp only [evEs] at e2
        cases e2
        refine go re rs e1 fun φ1 H1 v g1 rs1 re1 r1 => ?_
        obtain ⟨q, dx, gs, rfl, h1, h2, h3, h4⟩ := ins_inv rs1 r1 hn'
        exact ⟨q, dx, gs, rfl, h2, lookup_none h3 hlk, sp_of rfl rs1 (.cons r1 .nil) ev g1 kk⟩
      · cases ev1
    · cases ev1
  · cases ev1
/-- a new instance: its dict, itself -/
theorem new_ins {φ : List Addr} {S : List O} {H : Hp} {q dx : Addr} (rs : RS c.g c.cl φ S H) (hq : H q = none) (hd : H dx = none) (hne : dx ≠ q) :
    Grow φ H (φ ++ [q]) (upd (upd H dx (.own q)) q (.ins (c.cl k) dx [])) ∧ RS c.g c.cl (φ ++ [q]) (S ++ [.ins k []]) (upd (upd H dx (.own q)) q (.ins (c.cl k) dx [])) := by
  have h1 : (upd H dx (.own q)) q = none := by rw [upd_ne (Ne.symm hne)]; exact hq
  obtain ⟨g2, rs2⟩ := (rs.new (o := .own q) hd).push (o := .ins k []) (u := .ins (c.cl k) dx []) h1 ⟨rfl, rfl, .nil⟩
  exact ⟨(Grow.new hd).trans g2, rs2⟩
theorem snd_new {C : Addr} (hC : c.cl k = C) (M : Mk X'.K C f) (F : FnF c X' j i np f) (hr : Room (j + 1) X'.A) (hg : Gl X' x) (hm : X'.mg x = some (.ref C)) (hl : xs.length + 1 = np) (h : PA X' (e :: es) (tXs c xs)) (hdb : (x == ("__debug__" : Str)) = false)
    (hs : starEach (e :: es) X'.env = (false, eval e X'.env) :: starEach es X'.env) (hpl : (backTo pos (starEach es X'.env)).any (·.1) = false) :
    PE X' (.Call (.Name x p) (e :: es) [] pos) (tX c (.new k i xs)) := by
  obtain ⟨fd, ps, hn, hb, G⟩ := F.ok
  refine PE.imp (pe_make M G hr hg hm hb .nil pass0 h hdb hs hpl) fun σ H Q ⟨φ, env, S, d, S', re, rs, ev, kk⟩ => ?_
  simp only [evE] at ev
  obtain ⟨l, S1, e1, ev⟩ := R.bind_ok_inv ev
  obtain ⟨d2, S2, e2, ev⟩ := R.bind_ok_inv ev
  split at ev
  · cases ev
    refine gos re rs e1 fun φ1 H1 vs g1 rs1 re1 r1 => fun q dx hq hd hne => ?_
    subst hC
    obtain ⟨g2, rs2⟩ := new_ins (k := k) rs1 hq hd hne
    rw [List.append_nil]
    have rq : Rep c.g (φ1 ++ [q]) (upd (upd H1 dx (.own q)) q (.ins (c.cl k) dx [])) (.ref q) (.ref S1.length) := .ref (by rw [← rs1.len, List.getElem?_append_right (Nat.le_refl _)]; simp)
    refine sp_of (by simp [evEs_length e1]; omega) rs2 (.cons rq (RepL.mono g2 _ _ r1)) e2 (Grow.refl _ _) fun φ' H' v g' rs' rv => ⟨rv.non_inv, kk φ' H' _ ((g1.trans g2).trans g') rs' (Rep.mono g' _ _ rq)⟩
  · cases ev
theorem snd_new0 {C : Addr} (hC : c.cl k = C) (M : Mk X'.K C f) (F : FnF c X' j i 1 f) (hr : Room (j + 1) X'.A) (hg : Gl X' x) (hm : X'.mg x = some (.ref C)) (hdb : (x == ("__debug__" : Str)) = false) :
    PE X' (.Call (.Name x p) [] [] pos) (tX c (.new k i [])) := by
  obtain ⟨fd, ps, hn, hb, G⟩ := F.ok
  refine PE.imp (pe_make0 M G hr hg hm hb .nil pass0 hdb) fun σ H Q ⟨φ, env, S, d, S', re, rs, ev, kk⟩ => ?_
  simp only [evE] at ev
  obtain ⟨l, S1, e1, ev⟩ := R.bind_ok_inv ev
  simp only [evEs] at e1
  cases e1
  obtain ⟨d2, S2, e2, ev⟩ := R.bind_ok_inv ev
  split at ev
  · cases ev
    intro q dx hq hd hne
    subst hC
    obtain ⟨g2, rs2⟩ := new_ins (k := k) rs hq hd hne
    have rq : Rep c.g (φ ++ [q]) (upd (upd H dx (.own q)) q (.ins (c.cl k) dx [])) (.ref q) (.ref S.length) := .ref (by rw [← rs.len, List.getElem?_append_right (Nat.le_refl _)]; simp)
    refine sp_of rfl rs2 (.cons rq .nil) e2 (Grow.refl _ _) fun φ' H' v g' rs' rv => ⟨rv.non_inv, kk φ' H' _ (g2.trans g') rs' (Rep.mono g' _ _ rq)⟩
  · cases ev
/-! ### list methods -/
theorem ref_lst {n : Nat} {ds : List D} {v : V} (rs : RS c.g c.cl φ S H) (r : Rep c.g φ H v (.ref n)) (h : S[n]? = some (.lst ds)) : ∃ a xs, v = .ref a ∧ φ[n]? = some a ∧ H a = some (.lst xs) ∧ RepL c.g φ H xs ds := by
  cases r with
  | @ref a _ h1 =>
    obtain ⟨o, u, e, hu, ro⟩ := rs.at h1
    rw [h] at e; cases e
    cases u <;> first | exact ro.elim | exact ⟨a, _, rfl, h1, hu, ro⟩
theorem set_lst {n : Nat} {q : Addr} {xs : List V} {ds : List D} {xs0 : List V} (rs : RS c.g c.cl φ S H) (h : φ[n]? = some q) (h0 : H q = some (.lst xs0)) (r : RepL c.g φ H xs ds) :
    Grow φ H φ (upd H q (.lst xs)) ∧ RS c.g c.cl φ (S.set n (.lst ds)) (upd H q (.lst xs)) := by
  have g : Grow φ H φ (upd H q (.lst xs)) := Grow.mut h0 trivial (List.mem_of_getElem? h)
  exact ⟨g, (rs.set h (o := .lst ds) (u := .lst xs) (RepL.mono g _ _ r)).2⟩
theorem RepL.dropLast {vs : List V} {ds : List D} (r : RepL c.g φ H vs ds) : RepL c.g φ H vs.dropLast ds.dropLast := by
  rw [List.dropLast_eq_take, List.dropLast_eq_take, r.length]
  exact r.take _
theorem snd_pop (ha : PE X' a (tX c xa)) (hbase : attributeBase a "pop" X'.env (eval a X'.env) = eval a X'.env) (hline : (apos.endLine == pos.line) = true) : PE X' (.Call (.Attribute a "pop" apos) [] [] pos) (tX c (.pop xa [])) :=
  PE.imp (pe_bm0 PySem.F.plainAttrs_list PySem.F.slot_list_pop PySem.F.type_list_pop mt_pop ha hbase hline) fun σ H Q ⟨φ, env, S, d, S', re, rs, ev, k⟩ => by
    simp only [evE, evEs] at ev
    obtain ⟨d1, S1, e1, ev⟩ := R.bind_ok_inv ev
    split at ev
    · rename_i n
      obtain ⟨l, S2, e2, ev⟩ := R.bind_ok_inv ev
      cases e2
      split at ev
      · rename_i ds hn hl
        split at ev
        · rename_i d0 hd0
          cases ev
          refine go re rs e1 fun φ1 H1 v g1 rs1 re1 r1 => ?_
          obtain ⟨q, ys, rfl, h1, h2, h3⟩ := ref_lst rs1 r1 hn
          have hlast : ds[ds.length - 1]? = some d := by rw [← List.getLast?_eq_getElem?]; exact hd0
          obtain ⟨w, h4, h5⟩ := h3.get hlast
          obtain ⟨g2, rs2⟩ := set_lst rs1 h1 h2 (RepL.dropLast h3)
          exact ⟨.inl ⟨rfl, ys, .inl (.inl h2)⟩, q, ys, w, rfl, rfl, h2, by rw [h3.length]; exact h4, k φ1 _ w (g1.trans g2) rs2 (Rep.mono g2 _ _ h5)⟩
        · cases ev
      · cases ev
    · cases ev
/-! ### isinstance of one of several types -/
theorem kit_subs (K : PySem.W.Frag) (t : Ty) : ∀ us : List Ty, (∀ u ∈ us, u ≠ .non) → PySem.W.kitAny K (.type t.nm) (us.map fun u => .type u.nm) = some (us.any fun u => t.sub u)
  | [], _ => rfl
  | u :: us, h => by
    refine kitAny_cons (kit_sub K t u (h u List.mem_cons_self)) (fun e => ?_) (fun e => ?_)
    · rw [kit_subs K t us fun v hv => h v (List.mem_cons_of_mem _ hv)]
      simp [e]
    · simp [e]
theorem paired_ty : ∀ us : List Ty, Paired ClsV (us.map fun u => V.ty u.nm) (us.map fun u => Value.type u.nm)
  | [] => .nil
  | u :: us => .cons (.ty _) (paired_ty us)
theorem snd_isaT {tys : List Ty} {k1 : Nat} {p1 : Pos} (K : X'.K = c.g.K) (B : Blt X' "isinstance") (hne : ∀ u ∈ tys, u ≠ .non) (hz : tys.length ≤ 1000) (ha : PE X' a (tX c xa))
    (ht : ∃ t, PA X' es t ∧ ∀ σ H (Q : List V → Hp → Prop), Q (tys.map fun u => V.ty u.nm) H → t σ H Q)
    (hs : starEach [a, .Tuple es k1 p1] X'.env = (false, eval a X'.env) :: starEach [.Tuple es k1 p1] X'.env) : PE X' (.Call (.Name "isinstance" p) [a, .Tuple es k1 p1] [] pos) (tX c (.bi (.isa tys) [xa])) := by
  obtain ⟨t, hpa, hq⟩ := ht
  refine PE.imp (pe_callB (call_isiT (X := X')) B.gl B.no (by decide +kernel) (pa_cons ha (pa_cons (pe_tup hpa) pa_nil) hs) (by decide) (by decide) hs rfl) fun σ H Q ⟨φ, env, S, d, S', re, rs, ev, k⟩ => ?_
  simp only [evE] at ev
  obtain ⟨d1, S1, e1, ev⟩ := R.bind_ok_inv ev
  obtain ⟨e2, rfl⟩ := R.of_inv ev
  simp only [evEs] at e1
  obtain ⟨d2, S2, e3, e1⟩ := R.bind_ok_inv e1
  cases e1
  simp only [biD] at e2
  obtain ⟨u, e2', rfl⟩ := opt_map_inv e2
  refine go re rs e3 fun φ1 H1 v g1 rs1 re1 r1 => hq _ _ _ ⟨by rw [List.length_map, sizeLine_eq]; omega, fun q hq' => ?_⟩
  have g2 : Grow φ1 H1 φ1 (upd H1 q (.tup (tys.map fun u => V.ty u.nm))) := Grow.new hq'
  refine ⟨v, q, _, .type u.nm, _, _, rfl, upd_same, paired_ty tys, ?_, kit_subs _ _ _ hne, k φ1 _ _ (g1.trans g2) (rs1.new hq') (.bl _)⟩
  rw [K]; exact ty_x (rs1.new hq') (Rep.mono g2 _ _ r1) e2'
/-! ### xs[::-1] of a list -/
theorem snd_revL {n1 : Nat} {p1 p2 p3 : Pos} (ha : PE X' a (tX c xa)) : PE X' (.Subscript a (.Slice none none (some (.UnaryOp .USub (.Constant (.int 1) n1 p1) p2)) p3) pos) (tCx c (.revl xa)) :=
  PE.imp (pe_revL ha) fun σ H Q ⟨φ, env, S, d, S', re, rs, ev, k⟩ => by
    simp only [evC] at ev
    obtain ⟨d1, S1, e1, ev⟩ := R.bind_ok_inv ev
    obtain ⟨e2, rfl⟩ := R.of_inv ev
    obtain ⟨l, e3, rfl⟩ := opt_map_inv e2
    refine go re rs e1 fun φ1 H1 v g1 rs1 re1 r1 => ?_
    obtain ⟨q, ys, rfl, hl, k1⟩ := lst_inv rs1 r1 e3
    refine ⟨q, ys, rfl, hl.sq, fun w hw => ?_⟩
    have g2 : Grow φ1 H1 φ1 (upd H1 w (.lst ys.reverse)) := Grow.new hw
    exact k φ1 _ w _ (g1.trans g2) (rs1.new hw) (RepL.mono g2 _ _ k1.reverse) (fresh_before g1 rs1 hw) upd_same (rs1.free hw)
end
end Rx

set_option Elab.async false
set_option autoImplicit false
set_option linter.all false
set_option maxRecDepth 100000
set_option maxHeartbeats 1000000
/-! Rx16: statements. -/
namespace Rx
open PySem PySem.Spec PyProof.Rows L2
/-- a statement's end, as the evaluator says -/
def EndsOk (c : Cfg) (D : Ends) (φ0 : List Addr) (H0 : Hp) (f : Fl) (S' : List O) : Prop := ∀ φ' H', Grow φ0 H0 φ' H' → RS c.g c.cl φ' S' H' → match f with
  | .nx σ => ∀ σ', RelE c.g φ' H' σ σ' → D.nx σ' H'
  | .ret d => ∀ v, Rep c.g φ' H' v d → D.rt v H'
  | .bk σ => ∀ σ', RelE c.g φ' H' σ σ' → D.bk σ' H'
  | .ct σ => ∀ σ', RelE c.g φ' H' σ σ' → D.ct σ' H'
def tS (c : Cfg) (s : Sm) : TS := fun D σ H => ∃ φ env S f S', RelE c.g φ H env σ ∧ RS c.g c.cl φ S H ∧ evS c.cf c.cs s env S = .ok f S' ∧ EndsOk c D φ H f S'
def tB (c : Cfg) (b : List Sm) : TS := fun D σ H => ∃ φ env S f S', RelE c.g φ H env σ ∧ RS c.g c.cl φ S H ∧ evB c.cf c.cs b env S = .ok f S' ∧ EndsOk c D φ H f S'
/-- a target of an assignment -/
def tTg (c : Cfg) (t : Tg) : TG := fun v σ H Q => ∃ φ env S d env' S', RelE c.g φ H env σ ∧ RS c.g c.cl φ S H ∧ Rep c.g φ H v d ∧ evT c.cf c.cs t d env S = .ok env' S' ∧
  ∀ φ' H' σ', Grow φ H φ' H' → RS c.g c.cl φ' S' H' → RelE c.g φ' H' env' σ' → Q σ' H'
def tTgs (c : Cfg) (t : List Tg) : TGs := fun vs σ H Q => ∃ φ env S ds env' S', RelE c.g φ H env σ ∧ RS c.g c.cl φ S H ∧ RepL c.g φ H vs ds ∧ evTs c.cf c.cs t ds env S = .ok env' S' ∧
  ∀ φ' H' σ', Grow φ H φ' H' → RS c.g c.cl φ' S' H' → RelE c.g φ' H' env' σ' → Q σ' H'
theorem PS.imp {X : Cx} {s : Stmt} {t t' : TS} (h : PS X s t) (i : ∀ D σ H, t' D σ H → t D σ H) : PS X s t' := ⟨fun pins s σ H D I q => h.run pins s σ H D I (i D σ H q)⟩
theorem PSs.imp {X : Cx} {s : List Stmt} {t t' : TS} (h : PSs X s t) (i : ∀ D σ H, t' D σ H → t D σ H) : PSs X s t' := ⟨fun pins s σ H D I q => h.run pins s σ H D I (i D σ H q)⟩
section
variable {c : Cfg} {X' : Cx} {φ : List Addr} {env : Env} {S S1 : List O} {σ : L2.St} {H : Hp}
theorem EndsOk.from {D : Ends} {φ0 : List Addr} {H0 : Hp} {f : Fl} {S' : List O} (h : EndsOk c D φ0 H0 f S') (g : Grow φ0 H0 φ H) : EndsOk c D φ H f S' := fun φ' H' g' rs => h φ' H' (g.trans g') rs
/-! ### targets -/
variable {e a b o : Expr} {xa xb xo : X} {pos p apos : Pos} {x m : Str} {es : List Expr} {i : Nat} {st : Stmt} {rest body : List Stmt} {sm : Sm} {bm cm : List Sm}
theorem snd_tnm (hN : X'.N.Nodup) (hi : X'.N[i]? = some x) (hx : Loc X'.env.scope x) (hf : X'.fn x = true ∨ X'.env.scope.names.lookup x = some .local) : PG X' (.Name x pos) (tTg c (.nm i)) :=
  PG.imp (pg_name hN hi hx hf) fun v σ H Q ⟨φ, env, S, d, env', S', re, rs, r, ev, k⟩ => by
    simp only [evT] at ev
    cases ev
    exact k φ H _ (Grow.refl _ _) rs (re.set i r)
theorem evTs_nil {ds : List D} {env env' : Env} {S' : List O} (h : evTs c.cf c.cs [] ds env S = .ok env' S') : ds = [] ∧ env' = env ∧ S' = S := by
  cases ds with
  | nil => simp only [evTs] at h; cases h; exact ⟨rfl, rfl, rfl⟩
  | cons _ _ => simp only [evTs] at h; cases h
theorem evTs_cons {t : Tg} {l : List Tg} {ds : List D} {env env' : Env} {S' : List O} (h : evTs c.cf c.cs (t :: l) ds env S = .ok env' S') : ∃ d r e1 S1, ds = d :: r ∧ evT c.cf c.cs t d env S = .ok e1 S1 ∧ evTs c.cf c.cs l r e1 S1 = .ok env' S' := by
  cases ds with
  | nil => simp only [evTs] at h; cases h
  | cons d r =>
    simp only [evTs] at h
    obtain ⟨e1, S1, h1, h2⟩ := R.bind_ok_inv h
    exact ⟨d, r, e1, S1, rfl, h1, h2⟩
theorem evTs_length : ∀ {l : List Tg} {ds : List D} {env env' : Env} {S S' : List O}, evTs c.cf c.cs l ds env S = .ok env' S' → ds.length = l.length
  | [], ds, _, _, _, _, h => by obtain ⟨rfl, _⟩ := evTs_nil h; rfl
  | t :: l, ds, _, _, _, _, h => by
    obtain ⟨d, r, e1, S1, rfl, _, h2⟩ := evTs_cons h
    simp [evTs_length h2]
theorem snd_tgnil : PGs X' [] (tTgs c []) := PGs.imp pgs_nil fun v σ H Q ⟨φ, env, S, ds, env', S', re, rs, r, ev, k⟩ => by
  obtain ⟨rfl, rfl, rfl⟩ := evTs_nil ev
  cases r
  exact ⟨rfl, k φ H σ (Grow.refl _ _) rs re⟩
theorem snd_tgcons {t : Tg} {l : List Tg} (h1 : PG X' e (tTg c t)) (h2 : PGs X' es (tTgs c l)) (hs : (assignEach (e :: es) X'.env).map (·.2) = assign e X'.env :: (assignEach es X'.env).map (·.2)) : PGs X' (e :: es) (tTgs c (t :: l)) :=
  PGs.imp (pgs_cons h1 h2 hs) fun v σ H Q ⟨φ, env, S, ds, env', S', re, rs, r, ev, k⟩ => by
    obtain ⟨d, ds', e1, S1, rfl, ev1, ev2⟩ := evTs_cons ev
    cases r with
    | cons r1 r2 =>
      exact ⟨_, _, rfl, φ, env, S, d, e1, S1, re, rs, r1, ev1, fun φ1 H1 σ1 g1 rs1 re1 => ⟨φ1, e1, S1, ds', env', S', re1, rs1, RepL.mono g1 _ _ r2, ev2, fun φ2 H2 σ2 g2 => k φ2 H2 σ2 (g1.trans g2)⟩⟩
theorem snd_ttup {l : List Tg} {kk : Nat} (K : X'.K = c.g.K) (hc : X'.calm = true) (h : PGs X' es (tTgs c l)) (hn : (assignEach es X'.env).length = l.length) (hst : (assignEach es X'.env).findIdx? (·.1) = none) : PG X' (.Tuple es kk pos) (tTg c (.tup l)) :=
  PG.imp (pg_tup hc h hn hst) fun v σ H Q ⟨φ, env, S, d, env', S', re, rs, r, ev, k⟩ => by
    simp only [evT] at ev
    split at ev
    · rename_i ds
      obtain ⟨a, xs, rfl, hq, rx⟩ := tup_inv r
      exact ⟨a, xs, rfl, by rw [K]; exact hq, by rw [rx.length, evTs_length ev], φ, env, S, _, env', S', re, rs, rx, ev, k⟩
    · cases ev
theorem putF_rep {f : Str} {v : V} {d : D} : ∀ {gs : List (Str × V)} {fs : List (Str × D)}, fs.map (·.1) = gs.map (·.1) → RepL c.g φ H (gs.map (·.2)) (fs.map (·.2)) → Rep c.g φ H v d →
    (putD f d fs).map (·.1) = (putF f v gs).map (·.1) ∧ RepL c.g φ H ((putF f v gs).map (·.2)) ((putD f d fs).map (·.2))
  | [], [], _, _, r => ⟨rfl, .cons r .nil⟩
  | [], _ :: _, h, _, _ => by simp at h
  | _ :: _, [], h, _, _ => by simp at h
  | (y, w) :: gs, (z, e) :: fs, h, k, r => by
    simp only [List.map_cons, List.cons.injEq] at h
    obtain ⟨rfl, h⟩ := h
    cases k with
    | cons k1 k2 =>
      unfold putD putF
      split
      · exact ⟨by simp [h], .cons r k2⟩
      · obtain ⟨a, b⟩ := putF_rep h k2 r
        exact ⟨by simp [a], .cons k1 b⟩
theorem ins_put {n k : Nat} {q dx : Addr} {f : Str} {v : V} {d : D} {gs : List (Str × V)} {fs : List (Str × D)} (rs : RS c.g c.cl φ S H) (h1 : φ[n]? = some q) (h2 : H q = some (.ins (c.cl k) dx gs)) (h3 : fs.map (·.1) = gs.map (·.1)) (h4 : RepL c.g φ H (gs.map (·.2)) (fs.map (·.2))) (r : Rep c.g φ H v d) :
    Grow φ H φ (upd H q (.ins (c.cl k) dx (putF f v gs))) ∧ RS c.g c.cl φ (S.set n (.ins k (putD f d fs))) (upd H q (.ins (c.cl k) dx (putF f v gs))) := by
  have g : Grow φ H φ (upd H q (.ins (c.cl k) dx (putF f v gs))) := Grow.mut h2 trivial (List.mem_of_getElem? h1)
  obtain ⟨a, b⟩ := putF_rep (f := f) h3 h4 r
  exact ⟨g, (rs.set h1 (o := .ins k (putD f d fs)) (u := .ins (c.cl k) dx (putF f v gs)) ⟨rfl, a, RepL.mono g _ _ b⟩).2⟩
/-- o.f = .. as a target -/
def gFld (K : PySem.W.Frag) (to : TE) (f : Str) : TG := fun v σ H Q => to σ H fun x H1 => ∃ a C dx fs, x = .ref a ∧ H1 a = some (.ins C dx fs) ∧ Cls K C ∧ NoAttr K C f ∧ fs.length < 1000 ∧ Q σ (upd H1 a (.ins C dx (putF f v fs)))
theorem pg_fld {f : Str} {to : TE} (ho : PE X' o to) : PG X' (.Attribute o f pos) (gFld X'.K to f) := by
  refine ⟨fun pins s σ H v u Q I r h => ?_⟩
  show wpAny _ X'.A (do let ov ← holding [u] (eval o X'.env); standAt pos.atName; holding [u, ov] (setAttr ov f u); release [u, ov] []) _ _ s
  refine wpAny_bind (wpAny_holding (thn (ho.run pins s σ H _ I h) fun ov s1 ⟨y, H1, I1, r1, a, C, dx, fs, ey, ha, hc, hn, hl, q⟩ => ?_))
  subst ey
  cases r1
  refine wpAny_bind (wpAny_standAt (wpAny_bind (wpAny_holding ?_)))
  exact setattr_ok I1 ha hc hn hl r fun s2 I2 => wpAny_release ⟨σ, _, I2, q⟩
theorem snd_tattr {f : Str} (K : ∀ k, Cls X'.K (c.cl k)) (N : ∀ k, NoAttr X'.K (c.cl k) f) (ha : PE X' o (tX c xo)) : PG X' (.Attribute o f pos) (tTg c (.attr xo f)) :=
  PG.imp (pg_fld ha) fun v σ H Q ⟨φ, env, S, d, env', S', re, rs, r, ev, k⟩ => by
    simp only [evT] at ev
    obtain ⟨d1, S1, e1, ev1⟩ := R.bind_ok_inv ev
    clear ev
    split at ev1
    · rename_i n
      split at ev1
      · rename_i cc fs hn
        split at ev1
        · rename_i hl
          cases ev1
          refine go re rs e1 fun φ1 H1 y g1 rs1 re1 r1 => ?_
          obtain ⟨q, dx, gs, rfl, h1, h2, h3, h4⟩ := ins_inv rs1 r1 hn
          obtain ⟨g2, rs2⟩ := ins_put (f := f) rs1 h1 h2 h3 h4 (Rep.mono g1 _ _ r)
          refine ⟨q, _, dx, gs, rfl, h2, K _, N _, ?_, k φ1 _ σ (g1.trans g2) rs2 (re1.mono g2)⟩
          have := congrArg List.length h3
          simp at this; omega
        · cases ev1
      · cases ev1
    · cases ev1
theorem snd_tsub (hs : ∀ v, assign (.Subscript a b pos) X'.env v = (do
      let ov ← holding [v] (eval a X'.env)
      let iv ← holding [v, ov] (eval b X'.env)
      standAt pos
      holding [v, ov, iv] (setItem ov iv v)
      release [v, ov, iv] [])) (ha : PE X' a (tX c xa)) (hb : PE X' b (tX c xb)) : PG X' (.Subscript a b pos) (tTg c (.sub xa xb)) :=
  PG.imp (pg_sub ha hb set_list hs) fun v σ H Q ⟨φ, env, S, d, env', S', re, rs, r, ev, k⟩ => by
    simp only [evT] at ev
    obtain ⟨d1, S1, e1, ev1⟩ := R.bind_ok_inv ev
    obtain ⟨d2, S2, e2, ev2⟩ := R.bind_ok_inv ev1
    clear ev ev1
    split at ev2
    · rename_i S3 hset
      cases ev2
      unfold setD at hset
      split at hset
      · rename_i n kk
        split at hset
        · rename_i l hn
          simp only [Option.map_eq_some_iff] at hset
          obtain ⟨jj, hj, rfl⟩ := hset
          refine go re rs e1 fun φ1 H1 y g1 rs1 re1 r1 => go re1 rs1 e2 fun φ2 H2 z g2 rs2 re2 r2 => ?_
          cases r2.int_inv
          obtain ⟨q, xs, e9, h1, h2, h3⟩ := ref_lst rs2 (Rep.mono g2 _ _ r1) hn
          obtain ⟨g3, rs3⟩ := set_lst rs2 h1 h2 (h3.set jj (Rep.mono (g1.trans g2) _ _ r))
          exact ⟨q, xs, kk, jj, e9, rfl, h2, by rw [h3.length]; exact hj, k φ2 _ σ ((g1.trans g2).trans g3) rs3 (re2.mono g3)⟩
        · cases hset
      · cases hset
    · cases ev2
/-! ### assignments -/
theorem rd_asg {t : Tg} {xe : X} : ∀ D σ H, tS c (.asg t xe) D σ H → tAsg (tX c xe) (tTg c t) D σ H := fun D σ H ⟨φ, env, S, f, S', re, rs, ev, k⟩ => by
  simp only [evS] at ev
  obtain ⟨d, S1, e1, ev1⟩ := R.bind_ok_inv ev
  obtain ⟨env1, S2, e2, ev2⟩ := R.bind_ok_inv ev1
  clear ev ev1
  cases ev2
  exact go re rs e1 fun φ1 H1 v g1 rs1 re1 r1 => ⟨φ1, env, S1, d, env1, _, re1, rs1, r1, e2, fun φ2 H2 σ2 g2 rs2 re2 => k φ2 H2 (g1.trans g2) rs2 σ2 re2⟩
theorem rd_nm {i : Nat} : ∀ (v : V) σ H Q, tTg c (.nm i) v σ H Q → gName i v σ H Q := fun v σ H Q ⟨φ, env, S, d, env', S', re, rs, r, ev, k⟩ => by
  simp only [evT] at ev
  cases ev
  exact k φ H _ (Grow.refl _ _) rs (re.set i r)
theorem snd_asg {t : Tg} {xe : X} {tg : Expr} (he : PE X' e (tX c xe)) (hg : PG X' tg (tTg c t)) (hs : swapsWithSole [tg] e pos.line X'.env = pure false) (hw : swappedStores [tg] e X'.env = pure none) (h1 : (assignEach [tg] X'.env).map (·.2) = [assign tg X'.env]) :
    PS X' (.Assign [tg] e pos) (tS c (.asg t xe)) := PS.imp (ps_asg he hg hs hw h1) rd_asg
theorem snd_set {xe : X} {pos' : Pos} (hN : X'.N.Nodup) (hi : X'.N[i]? = some x) (hx : Loc X'.env.scope x) (he : PE X' e (tX c xe)) (hs : swapsWith e (some (.Name x pos')) pos.line X'.env = pure false) (hf : X'.fn x = true ∨ X'.env.scope.names.lookup x = some .local) :
    PS X' (.Assign [.Name x pos'] e pos) (tS c (.asg (.nm i) xe)) := PS.imp (ps_set hN hi hx he hs hf) fun D σ H h => by
  obtain ⟨φ, env, S, d, S', re, rs, ev, k⟩ := rd_asg D σ H h
  exact ⟨φ, env, S, d, S', re, rs, ev, fun φ' H' v g rs' r => rd_nm _ _ _ _ (k φ' H' v g rs' r)⟩
/-- name = value, both on one line -/
theorem rd_par {xs : List X} : True := trivial
theorem snd_par {j : Nat} {y : Str} {px py pt : Pos} {kt k2 : Nat} {pt2 : Pos} (hc : X'.calm = true) (hN : X'.N.Nodup) (hi : X'.N[i]? = some x) (hj : X'.N[j]? = some y) (hij : i ≠ j)
    (hx : X'.env.scope.names.lookup x = some .local) (hy : X'.env.scope.names.lookup y = some .local) (ha : PA X' [a, b] (tXs c [xa, xb]))
    (hw : swappedStores [.Tuple [.Name x px, .Name y py] kt pt] (.Tuple [a, b] k2 pt2) X'.env = pure (some [x, y]))
    (hs : swapsWithSole [.Tuple [.Name x px, .Name y py] kt pt] (.Tuple [a, b] k2 pt2) pos.line X'.env = pure false) :
    PS X' (.Assign [.Tuple [.Name x px, .Name y py] kt pt] (.Tuple [a, b] k2 pt2) pos) (tS c (.par [i, j] [xa, xb])) :=
  PS.imp (ps_par hc hN hi hj hij hx hy ha hw hs) fun D σ H ⟨φ, env, S, f, S', re, rs, ev, k⟩ => by
    simp only [evS] at ev
    obtain ⟨ds, S1, e1, ev1⟩ := R.bind_ok_inv ev
    obtain ⟨env1, S2, e2, ev2⟩ := R.bind_ok_inv ev1
    clear ev ev1
    cases ev2
    obtain ⟨e3, rfl⟩ := R.of_inv e2
    have hl := evEs_length e1
    match ds, hl, e1, e3 with
    | [d1, d2], _, e1, e3 =>
      simp only [setsE, Option.some.injEq] at e3
      subst e3
      refine gos re rs e1 fun φ1 H1 vs g1 rs1 re1 r1 => ?_
      obtain ⟨v, w, rfl, rv, rw'⟩ := two_inv r1
      exact ⟨v, w, rfl, k φ1 H1 g1 rs1 _ ((re1.set i rv).set j rw')⟩
theorem snd_par3 {j l : Nat} {y z : Str} {e3 : Expr} {xc : X} {px py pz pt : Pos} {kt k2 : Nat} {pt2 : Pos} (hc : X'.calm = true) (hN : X'.N.Nodup) (hi : X'.N[i]? = some x) (hj : X'.N[j]? = some y) (hl : X'.N[l]? = some z) (hij : i ≠ j) (hil : i ≠ l) (hjl : j ≠ l)
    (hx : X'.env.scope.names.lookup x = some .local) (hy : X'.env.scope.names.lookup y = some .local) (hz : X'.env.scope.names.lookup z = some .local) (ha : PA X' [a, b, e3] (tXs c [xa, xb, xc]))
    (hw : swappedStores [.Tuple [.Name x px, .Name y py, .Name z pz] kt pt] (.Tuple [a, b, e3] k2 pt2) X'.env = pure (some [x, y, z]))
    (hs : swapsWithSole [.Tuple [.Name x px, .Name y py, .Name z pz] kt pt] (.Tuple [a, b, e3] k2 pt2) pos.line X'.env = pure false) :
    PS X' (.Assign [.Tuple [.Name x px, .Name y py, .Name z pz] kt pt] (.Tuple [a, b, e3] k2 pt2) pos) (tS c (.par [i, j, l] [xa, xb, xc])) :=
  PS.imp (ps_par3 hc hN hi hj hl hij hil hjl hx hy hz ha hw hs) fun D σ H ⟨φ, env, S, f, S', re, rs, ev, k⟩ => by
    simp only [evS] at ev
    obtain ⟨ds, S1, e1, ev1⟩ := R.bind_ok_inv ev
    obtain ⟨env1, S2, e2, ev2⟩ := R.bind_ok_inv ev1
    clear ev ev1
    cases ev2
    obtain ⟨e9, rfl⟩ := R.of_inv e2
    have hl := evEs_length e1
    match ds, hl, e1, e9 with
    | [d1, d2, d3], _, e1, e9 =>
      simp only [setsE, Option.some.injEq] at e9
      subst e9
      refine gos re rs e1 fun φ1 H1 vs g1 rs1 re1 r1 => ?_
      cases r1 with
      | cons rv r1 =>
        obtain ⟨v, w, rfl, rw', ru⟩ := two_inv r1
        exact ⟨_, v, w, rfl, k φ1 H1 g1 rs1 _ (((re1.set i rv).set j rw').set l ru)⟩
theorem snd_aug {op : BOp} {pos' : Pos} (hN : X'.N.Nodup) (hi : X'.N[i]? = some x) (hx : Loc X'.env.scope x) (he : PE X' e (tX c xa)) (hop : op = .add ∨ op = .sub) (hf : X'.fn x = true ∨ X'.env.scope.names.lookup x = some .local) :
    PS X' (.AugAssign (.Name x pos') op.op e pos) (tS c (.aug i op xa)) := by
  have key : ∀ {f : Int → Int → Int}, (∀ {x y d : D} {S0 : List O}, augD S0 op x y = some d → ∃ i j, x = .int i ∧ y = .int j ∧ d = .int (f i j)) → ∀ D σ H, tS c (.aug i op xa) D σ H → tAug i (tX c xa) (ipI f) D σ H := fun {f} inv D σ H ⟨φ, env, S, fl, S', re, rs, ev, k⟩ => by
    simp only [evS] at ev
    split at ev
    · rename_i x0 hx0
      obtain ⟨y0, S1, e1, ev1⟩ := R.bind_ok_inv ev
      obtain ⟨d0, S2, e2, ev2⟩ := R.bind_ok_inv ev1
      clear ev ev1
      cases ev2
      obtain ⟨e3, rfl⟩ := R.of_inv e2
      obtain ⟨p, q, rfl, rfl, rfl⟩ := inv e3
      obtain ⟨v, h1, h2⟩ := re.at_ i _ hx0
      cases h2.int_inv
      refine ⟨_, h1, go re rs e1 fun φ1 H1 w g1 rs1 re1 r1 => ?_⟩
      cases r1.int_inv
      exact ⟨p, q, rfl, rfl, k φ1 H1 g1 rs1 _ (re1.set i (.int _))⟩
    · cases ev
  rcases hop with rfl | rfl
  · exact PS.imp (ps_aug hN hi hx he ip_add hf) (key fun {x y d S0} h => by
      unfold augD at h
      split at h
      · cases h; exact ⟨_, _, rfl, rfl, rfl⟩
      · rename_i e; cases e
      · cases h)
  · exact PS.imp (ps_aug hN hi hx he ip_sub hf) (key fun {x y d S0} h => by
      unfold augD at h
      split at h
      · rename_i e; cases e
      · cases h; exact ⟨_, _, rfl, rfl, rfl⟩
      · cases h)
end
end Rx

set_option Elab.async false
set_option autoImplicit false
set_option linter.all false
set_option maxRecDepth 100000
set_option maxHeartbeats 1000000
/-! Rx17: statements: methods as statements, branches, loops, ends. -/
namespace Rx
open PySem PySem.Spec PyProof.Rows L2
section
variable {c : Cfg} {X' : Cx} {φ : List Addr} {env : Env} {S S1 : List O} {σ : L2.St} {H : Hp}
variable {e a b o : Expr} {xa xb xo : X} {pos p apos : Pos} {x m : Str} {es : List Expr} {i : Nat} {st : Stmt} {rest body : List Stmt} {sm : Sm} {bm cm : List Sm}
theorem snd_expr (ha : PE X' a (tX c xa)) (hs : swapsWith a none pos.line X'.env = pure false) : PS X' (.Expr a pos) (tS c (.expr xa)) :=
  PS.imp (ps_expr ha hs) fun D σ H ⟨φ, env, S, f, S', re, rs, ev, k⟩ => by
    simp only [evS] at ev
    obtain ⟨d, S1, e1, ev1⟩ := R.bind_ok_inv ev
    clear ev
    cases ev1
    exact go re rs e1 fun φ1 H1 v g1 rs1 re1 r1 => k φ1 H1 g1 rs1 σ re1
theorem isL_inv {n : Nat} (h : ¬ isL S n = false) : ∃ l, S[n]? = some (.lst l) := by
  unfold isL at h
  split at h
  · rename_i l e; exact ⟨l, e⟩
  · exact absurd rfl h
theorem ty_list {n : Nat} {v : V} (rs : RS c.g c.cl φ S H) (r : Rep c.g φ H v (.ref n)) (h : ¬ isL S n = false) : tyV X'.K "list" v H := by
  obtain ⟨l, e⟩ := isL_inv h
  obtain ⟨q, xs, rfl, h1, h2, h3⟩ := ref_lst rs r e
  exact .inl ⟨rfl, xs, .inl (.inl h2)⟩
theorem snd_append (ha : PE X' a (tX c xa)) (he : PE X' e (tX c xb)) (hbase : attributeBase a "append" X'.env (eval a X'.env) = eval a X'.env) (hline : (apos.endLine == p.line) = true) (hs : starEach [e] X'.env = [(false, eval e X'.env)])
    (hfew : ((backTo p (starEach [e] X'.env)).all (fun x => !x.1) && (backToKw p (keywordEach [] X'.env)).all (fun x => x.1.isSome) && decide (([e] : List Expr).length + ([] : List Keyword).length + (if ([] : List Keyword).isEmpty then 0 else 1) < 30)) = true) :
    PS X' (.Expr (.Call (.Attribute a "append" apos) [e] [] p) pos) (tS c (.append xa xb)) :=
  PS.imp (ps_expr (pe_bm PySem.F.plainAttrs_list PySem.F.slot_list_append PySem.F.type_list_append mt_append ha (snd_cons he snd_nil hs) hbase hfew hline hs rfl)) fun D σ H ⟨φ, env, S, f, S', re, rs, ev, k⟩ => by
    simp only [evS] at ev
    obtain ⟨d1, S1, e1, ev1⟩ := R.bind_ok_inv ev
    clear ev
    split at ev1
    · rename_i n
      split at ev1
      · cases ev1
      rename_i hL
      obtain ⟨d, S2, e2, ev2⟩ := R.bind_ok_inv ev1
      clear ev1
      split at ev2
      · rename_i l hn
        split at ev2
        · rename_i hz
          cases ev2
          refine go re rs e1 fun φ1 H1 v g1 rs1 re1 r1 => ?_
          refine ⟨ty_list rs1 r1 hL, gos re1 rs1 (ds := [d]) (S1 := S2) (by simp [evEs, e2]) fun φ2 H2 vs g2 rs2 re2 r2 => ?_⟩
          obtain ⟨w, rfl, rw'⟩ := one_inv r2
          obtain ⟨q, xs, rfl, h1, h2, h3⟩ := ref_lst rs2 (Rep.mono g2 _ _ r1) hn
          obtain ⟨g3, rs3⟩ := set_lst rs2 h1 h2 (h3.append (.cons rw' .nil))
          exact ⟨q, xs, w, rfl, rfl, h2, by rw [h3.length, sizeLine_eq]; exact hz, k φ2 _ ((g1.trans g2).trans g3) rs3 σ (re2.mono g3)⟩
        · cases ev2
      · cases ev2
    · cases ev1
/-- a list at its end gets the items of another, locked or not -/
def rExt : V → List V → Hp → VK → Prop := fun x vs H Q => ∃ l b xs zs, x = .ref l ∧ vs = [.ref b] ∧ H l = some (.lst xs) ∧ LX H b zs ∧ xs.length + zs.length ≤ sizeLine ∧ Q .non (upd H l (.lst (xs ++ zs)))
theorem mt_ext : MtM X' "list.extend" rExt := by
  intro pins s σ H x vs v us Q I rx rv h
  obtain ⟨l, b, xs, zs, rfl, rfl, hH, hB, hz, q⟩ := h
  cases rx
  obtain ⟨u, rfl, ru⟩ := vals1 rv
  cases ru
  obtain ⟨its, n, r, e, _⟩ := I.lst hH
  obtain ⟨_, its2, n2, r2, hl2, e2⟩ := hB.obj I
  have hl := r.length
  have hsz : its.toArray.size + its2.toArray.size ≤ sizeLine := by rw [List.size_toArray, List.size_toArray]; omega
  have hlong : ¬ (!its.toArray.isEmpty && Builtin.List.listTooLong (its.toArray.size + its2.toArray.size)) = true := by
    intro z
    rw [notLongL hsz] at z
    simp at z
  refine call_meets F.slot_list_extend ⟨_, e, rfl⟩ F.entry_list_extend (F.args_list_extend_2 _ _) (AutoSeq1.list_extend_list_list_0 l its.toArray n b its2.toArray n2 hlong (by rw [List.size_toArray]; omega) (by omega)) ⟨e, e2, ?_⟩
  exact ⟨.non, _, I.lset (its' := its ++ its2) hH e (by simp) (r.append r2) (by rw [List.length_append]; omega), rfl, q⟩
theorem snd_extend (ha : PE X' a (tX c xa)) (he : PE X' e (tX c xb)) (hbase : attributeBase a "extend" X'.env (eval a X'.env) = eval a X'.env) (hline : (apos.endLine == p.line) = true) (hs : starEach [e] X'.env = [(false, eval e X'.env)])
    (hfew : ((backTo p (starEach [e] X'.env)).all (fun x => !x.1) && (backToKw p (keywordEach [] X'.env)).all (fun x => x.1.isSome) && decide (([e] : List Expr).length + ([] : List Keyword).length + (if ([] : List Keyword).isEmpty then 0 else 1) < 30)) = true) :
    PS X' (.Expr (.Call (.Attribute a "extend" apos) [e] [] p) pos) (tS c (.extend xa xb)) :=
  PS.imp (ps_expr (pe_bm PySem.F.plainAttrs_list PySem.F.slot_list_extend PySem.F.type_list_extend mt_ext ha (snd_cons he snd_nil hs) hbase hfew hline hs rfl)) fun D σ H ⟨φ, env, S, f, S', re, rs, ev, k⟩ => by
    simp only [evS] at ev
    obtain ⟨d1, S1, e1, ev1⟩ := R.bind_ok_inv ev
    clear ev
    split at ev1
    · rename_i n
      split at ev1
      · cases ev1
      rename_i hL
      obtain ⟨d, S2, e2, ev2⟩ := R.bind_ok_inv ev1
      clear ev1
      split at ev2
      · rename_i l l2 hn hm
        split at ev2
        · rename_i hz
          cases ev2
          refine go re rs e1 fun φ1 H1 v g1 rs1 re1 r1 => ?_
          refine ⟨ty_list rs1 r1 hL, gos re1 rs1 (ds := [d]) (S1 := S2) (by simp [evEs, e2]) fun φ2 H2 vs g2 rs2 re2 r2 => ?_⟩
          obtain ⟨w, rfl, rw'⟩ := one_inv r2
          obtain ⟨q, xs, rfl, h1, h2, h3⟩ := ref_lst rs2 (Rep.mono g2 _ _ r1) hn
          obtain ⟨q2, ys, rfl, h4, h5⟩ := lst_inv rs2 rw' hm
          obtain ⟨g3, rs3⟩ := set_lst rs2 h1 h2 (h3.append h5)
          exact ⟨q, q2, xs, ys, rfl, rfl, h2, h4, by rw [h3.length, h5.length]; exact szOk_le hz, k φ2 _ ((g1.trans g2).trans g3) rs3 σ (re2.mono g3)⟩
        · cases ev2
      · cases ev2
    · cases ev1
/-! ### branches and ends -/
theorem snd_if (hc : PT X' e (tXt c xa)) (ha : PSs X' body (tB c bm)) (hb : PSs X' rest (tB c cm)) : PS X' (.If e body rest pos) (tS c (.ite xa bm cm)) :=
  PS.imp (ps_if hc ha hb) fun D σ H ⟨φ, env, S, f, S', re, rs, ev, k⟩ => by
    simp only [evS] at ev
    obtain ⟨d, S1, e1, ev1⟩ := R.bind_ok_inv ev
    obtain ⟨t, S2, e2, ev2⟩ := R.bind_ok_inv ev1
    clear ev ev1
    obtain ⟨e3, rfl⟩ := R.of_inv e2
    refine got re rs e1 e3 fun φ1 H1 g1 rs1 re1 => ?_
    cases t with
    | true => simp only [if_true] at ev2 ⊢; exact ⟨φ1, env, S1, f, S', re1, rs1, ev2, k.from g1⟩
    | false => simp only [Bool.false_eq_true, if_false] at ev2 ⊢; exact ⟨φ1, env, S1, f, S', re1, rs1, ev2, k.from g1⟩
theorem snd_ret (ha : PE X' a (tX c xa)) : PS X' (.Return (some a) pos) (tS c (.ret xa)) := PS.imp (ps_ret ha) fun D σ H ⟨φ, env, S, f, S', re, rs, ev, k⟩ => by
  simp only [evS] at ev
  obtain ⟨d, S1, e1, ev1⟩ := R.bind_ok_inv ev
  clear ev
  cases ev1
  exact go re rs e1 fun φ1 H1 v g1 rs1 re1 r1 => k φ1 H1 g1 rs1 v r1
theorem snd_retN : PS X' (.Return none pos) (tS c .retN) := PS.imp ps_retN fun D σ H ⟨φ, env, S, f, S', re, rs, ev, k⟩ => by
  simp only [evS] at ev
  cases ev
  exact k φ H (Grow.refl _ _) rs _ .non
theorem snd_pass : PS X' (.Pass pos) (tS c .pass) := PS.imp ps_pass fun D σ H ⟨φ, env, S, f, S', re, rs, ev, k⟩ => by
  simp only [evS] at ev
  cases ev
  exact k φ H (Grow.refl _ _) rs σ re
theorem snd_brk : PS X' (.Break pos) (tS c .brk) := PS.imp ps_break fun D σ H ⟨φ, env, S, f, S', re, rs, ev, k⟩ => by
  simp only [evS] at ev
  cases ev
  exact k φ H (Grow.refl _ _) rs σ re
theorem snd_cnt : PS X' (.Continue pos) (tS c .cnt) := PS.imp ps_continue fun D σ H ⟨φ, env, S, f, S', re, rs, ev, k⟩ => by
  simp only [evS] at ev
  cases ev
  exact k φ H (Grow.refl _ _) rs σ re
/-- what is never reached -/
theorem snd_never {t : TS} {s0 : Sm} (h : ∀ env S f S', evS c.cf c.cs s0 env S ≠ .ok f S') : PS X' st (tS c s0) := ⟨fun pins s σ H D I ⟨φ, env, S, f, S', re, rs, ev, k⟩ => absurd ev (h _ _ _ _)⟩
theorem snd_raise {k : Nat} : PS X' st (tS c (.raise k xa)) := snd_never (t := tNext) fun env S f S' h => by
  simp only [evS] at h
  obtain ⟨d, S1, e1, h⟩ := R.bind_ok_inv h
  cases h
/-! ### blocks -/
theorem snd_bnil : PSs X' [] (tB c []) := PSs.imp pss_nil fun D σ H ⟨φ, env, S, f, S', re, rs, ev, k⟩ => by
  simp only [evB] at ev
  cases ev
  exact k φ H (Grow.refl _ _) rs σ re
theorem snd_bcons (h1 : PS X' st (tS c sm)) (h2 : PSs X' rest (tB c bm)) : PSs X' (st :: rest) (tB c (sm :: bm)) :=
  PSs.imp (pss_cons h1 h2) fun D σ H ⟨φ, env, S, f, S', re, rs, ev, k⟩ => by
    simp only [evB] at ev
    obtain ⟨f1, S1, e1, ev1⟩ := R.bind_ok_inv ev
    clear ev
    refine ⟨φ, env, S, f1, S1, re, rs, e1, fun φ1 H1 g1 rs1 => ?_⟩
    cases f1 with
    | nx env1 => exact fun σ1 re1 => ⟨φ1, env1, S1, f, S', re1, rs1, ev1, k.from g1⟩
    | ret d => cases ev1; exact k φ1 H1 g1 rs1
    | bk env1 => cases ev1; exact k φ1 H1 g1 rs1
    | ct env1 => cases ev1; exact k φ1 H1 g1 rs1
/-! ### loops -/
theorem snd_while (hp : PassesOwn (model X'.prog X'.w) X'.A X'.env X'.xe) (hc : PT X' e (tXt c xa)) (hb : PSs X' body (tB c bm)) : PS X' (.While e body [] pos) (tS c (.whl xa bm)) :=
  PS.imp (ps_while hp hc hb) fun D σ H ⟨φ, env, S, f, S', re, rs, ev, k⟩ => by
    simp only [evS] at ev
    refine ⟨fun m σ1 H1 => ∃ φ1 env1 S1, Grow φ H φ1 H1 ∧ RelE c.g φ1 H1 env1 σ1 ∧ RS c.g c.cl φ1 S1 H1 ∧ whlL (fun σ S => (evE c.cf c.cs xa σ S).bind fun x S => R.of S (truD S x)) (fun σ S => evB c.cf c.cs bm σ S) m env1 S1 = .ok f S', ⟨WF, φ, env, S, Grow.refl _ _, re, rs, ev⟩, ?_⟩
    rintro m σ1 H1 ⟨φ1, env1, S1, g1, re1, rs1, ev1⟩
    cases m with
    | zero => simp only [whlL] at ev1; cases ev1
    | succ m =>
      simp only [whlL] at ev1
      obtain ⟨t, S2, e1, ev2⟩ := R.bind_ok_inv ev1
      obtain ⟨d, S3, e2, e3⟩ := R.bind_ok_inv e1
      clear ev1 e1
      obtain ⟨e4, rfl⟩ := R.of_inv e3
      refine got re1 rs1 e2 e4 fun φ2 H2 g2 rs2 re2 => ?_
      cases t with
      | false =>
        simp only [Bool.false_eq_true, if_false] at ev2 ⊢
        cases ev2
        exact k φ2 H2 (g1.trans g2) rs2 σ1 re2
      | true =>
        simp only [if_true] at ev2 ⊢
        obtain ⟨f1, S4, e5, ev3⟩ := R.bind_ok_inv ev2
        clear ev2
        refine ⟨fun σ3 H3 => ∃ φ3 env3, Grow φ H φ3 H3 ∧ RelE c.g φ3 H3 env3 σ3 ∧ RS c.g c.cl φ3 S4 H3 ∧ whlL (fun σ S => (evE c.cf c.cs xa σ S).bind fun x S => R.of S (truD S x)) (fun σ S => evB c.cf c.cs bm σ S) m env3 S4 = .ok f S',
          fun σ3 H3 ⟨φ3, env3, g3, re3, rs3, ev4⟩ => ⟨m, Nat.lt_succ_self _, φ3, env3, S4, g3, re3, rs3, ev4⟩, φ2, env1, S3, f1, S4, re2, rs2, e5, fun φ3 H3 g3 rs3 => ?_⟩
        have gg := (g1.trans g2).trans g3
        cases f1 with
        | nx env3 => exact fun σ3 re3 => ⟨φ3, env3, gg, re3, rs3, ev3⟩
        | ct env3 => exact fun σ3 re3 => ⟨φ3, env3, gg, re3, rs3, ev3⟩
        | bk env3 => cases ev3; exact fun σ3 re3 => k φ3 H3 gg rs3 σ3 re3
        | ret d => cases ev3; exact k φ3 H3 gg rs3
theorem forL_still {src : Src} {turn : D → Env → List O → R Fl} {l : List D} {env : Env} {f : Fl} {S' : List O} (h : forL src turn l env S = .ok f S') : src.still S = true := by
  cases l <;> simp only [forL] at h <;> split at h <;> first | assumption | cases h
theorem snd_for {tg : Expr} {iter : Expr} {pt : Pt} {it : I} (hp : PassesOwn (model X'.prog X'.w) X'.A X'.env X'.xe) (hc : X'.calm = true) (hi : PI X' tg iter (tI c it)) (hg : PG X' tg (tG c pt)) (hb : PSs X' body (tB c bm)) (hs : ∀ x, foldedSetIterable iter X'.env x = pure x) :
    PS X' (.For tg iter body [] pos) (tS c (.for_ pt it bm)) :=
  PS.imp (ps_for hp hc hi hg hb hs) fun D σ H ⟨φ, env, S, f, S', re, rs, ev, k⟩ => by
    simp only [evS] at ev
    obtain ⟨src, S1, e1, ev1⟩ := R.bind_ok_inv ev
    clear ev
    refine ⟨φ, env, S, src, S1, re, rs, e1, fun φ1 H1 J g1 rs1 sv => ?_⟩
    refine ⟨fun i m σ2 H2 => m = src.list.length - i ∧ ∃ φ2 env2 S2 rest, src.list.drop i = rest ∧ i ≤ src.list.length ∧ Grow φ1 H1 φ2 H2 ∧ RelE c.g φ2 H2 env2 σ2 ∧ RS c.g c.cl φ2 S2 H2 ∧ forL src (fun d σ S => match pt.put d σ with
        | some σ => evB c.cf c.cs bm σ S
        | none => .bad) rest env2 S2 = .ok f S', ⟨src.list.length, by simp, φ1, env, S1, src.list, rfl, Nat.zero_le _, Grow.refl _ _, re.mono g1, rs1, ev1⟩, ?_⟩
    rintro i m σ2 H2 ⟨rfl, φ2, env2, S2, rest, hdrop, hi, g2, re2, rs2, ev2⟩
    have st := forL_still ev2
    obtain ⟨sv1, sv2⟩ := sv i φ2 H2 S2 g2.toExt rs2 st
    cases rest with
    | nil =>
      have hi' : i = src.list.length := by
        have := congrArg List.length hdrop
        simp at this; omega
      simp only [forL, st, if_true] at ev2
      cases ev2
      exact .inl ⟨sv2 hi', k φ2 H2 (g1.trans g2) rs2 σ2 re2⟩
    | cons d rest =>
      have hlt : i < src.list.length := by
        have := congrArg List.length hdrop
        simp at this; omega
      have hget : src.list[i]? = some d := by
        have : (src.list.drop i)[0]? = some d := by rw [hdrop]; rfl
        rw [List.getElem?_drop] at this
        simpa using this
      have hdrop' : src.list.drop (i + 1) = rest := by
        rw [← List.drop_drop, hdrop]; rfl
      simp only [forL, st, if_true] at ev2
      obtain ⟨f1, S3, e2, ev3⟩ := R.bind_ok_inv ev2
      clear ev2
      obtain ⟨go, yl⟩ := sv1 d hget
      refine .inr ⟨go, fun σ3 H3 => ∃ φ3 env3, Grow φ1 H1 φ3 H3 ∧ RelE c.g φ3 H3 env3 σ3 ∧ RS c.g c.cl φ3 S3 H3 ∧ forL src (fun d σ S => match pt.put d σ with
        | some σ => evB c.cf c.cs bm σ S
        | none => .bad) rest env3 S3 = .ok f S', fun σ3 H3 ⟨φ3, env3, g3, re3, rs3, ev4⟩ => ⟨_, by omega, rfl, φ3, env3, S3, rest, hdrop', hlt, g3, re3, rs3, ev4⟩, fun x H3 y => ?_⟩
      obtain ⟨g3, rs3, rd⟩ := yl x H3 y
      split at e2
      · rename_i env3 hput
        refine ⟨φ2, env2, S2, d, env3, re2.mono g3, rs3, rd, hput, fun σ3 re3 _ => ⟨φ2, env3, S2, f1, S3, re3, rs3, e2, fun φ4 H4 g4 rs4 => ?_⟩⟩
        have gg := (g2.trans g3).trans g4
        cases f1 with
        | nx env4 => exact fun σ4 re4 => ⟨φ4, env4, gg, re4, rs4, ev3⟩
        | ct env4 => exact fun σ4 re4 => ⟨φ4, env4, gg, re4, rs4, ev3⟩
        | bk env4 => cases ev3; exact fun σ4 re4 => k φ4 H4 (g1.trans gg) rs4 σ4 re4
        | ret d => cases ev3; exact k φ4 H4 (g1.trans gg) rs4
      · cases e2
end
end Rx

set_option Elab.async false
set_option autoImplicit false
set_option linter.all false
set_option maxRecDepth 100000
set_option maxHeartbeats 1000000
/-! Rx18: comprehensions as values and stored on their line; defs by their bodies. -/
namespace Rx
open PySem PySem.Spec PyProof.Rows L2
section
variable {c : Cfg} {X' : Cx} {φ : List Addr} {env : Env} {S S1 : List O} {σ : L2.St} {H : Hp}
variable {e a b o : Expr} {xa xb xo : X} {pos p apos : Pos} {x m : Str} {es : List Expr} {i : Nat} {st : Stmt} {rest body : List Stmt} {sm : Sm} {bm cm : List Sm} {k : C}
variable {elt tg iter tg1 iter1 : Expr} {ifs ifs1 : List Expr} {scope : Scope} {own : List (Str × Nat)} {elx : X} {p0 p1 : Pt} {it it1 : I} {cs cs1 : List X}
theorem snd_comp (hc : X'.calm = true) (hN : X'.N.Nodup) (hi : PI X' tg iter (tI c it)) (ok : BlkOk X'.N X'.env.scope scope own) (hps : ∀ i ∈ p0.slots, i ∈ own.map (·.2))
    (hg : ∀ (s : Shared) (H : Hp) (C : Addr) (cl : List (Str × Addr)) (fp : List Addr), PG (X'.blk s H scope (compEnvC scope cl C X'.env) fp) tg (tG c p0)) (ht : ∀ (s : Shared) (H : Hp) (C : Addr) (cl : List (Str × Addr)) (fp : List Addr), PTs (X'.blk s H scope (compEnvC scope cl C X'.env) fp) ifs (tXi c cs))
    (he : ∀ (s : Shared) (H : Hp) (C : Addr) (cl : List (Str × Addr)) (fp : List Addr), PE (X'.blk s H scope (compEnvC scope cl C X'.env) fp) elt (tX c elx)) (hs : ∀ x, foldedSetIterable iter X'.env x = pure x) :
    PE X' (.ListComp elt [⟨tg, iter, ifs, 0⟩] scope pos) (tCx c (.comp (own.map (·.2)) elx p0 it cs)) := PE.imp (pe_lc hc hN hi ok hg ht he hs) fun σ H Q h => rd_comp σ H Q h hps
theorem snd_comp2 {own1 : List Nat} (hc : X'.calm = true) (hN : X'.N.Nodup) (hi : PI X' tg iter (tI c it)) (ok : BlkOk X'.N X'.env.scope scope own) (hps : ∀ i ∈ p0.slots, i ∈ own.map (·.2)) (hps1 : ∀ i ∈ p1.slots, i ∈ own1) (hv : ∀ i ∈ own1, i ∈ own.map (·.2))
    (hg : ∀ (s : Shared) (H : Hp) (C : Addr) (cl : List (Str × Addr)) (fp : List Addr), PG (X'.blk s H scope (compEnvC scope cl C X'.env) fp) tg (tG c p0)) (ht : ∀ (s : Shared) (H : Hp) (C : Addr) (cl : List (Str × Addr)) (fp : List Addr), PTs (X'.blk s H scope (compEnvC scope cl C X'.env) fp) ifs (tXi c cs))
    (hi1 : ∀ (s : Shared) (H : Hp) (C : Addr) (cl : List (Str × Addr)) (fp : List Addr), PI (X'.blk s H scope (compEnvC scope cl C X'.env) fp) tg1 iter1 (tI c it1))
    (hg1 : ∀ (s : Shared) (H : Hp) (C : Addr) (cl : List (Str × Addr)) (fp : List Addr), PG (X'.blk s H scope (compEnvC scope cl C X'.env) fp) tg1 (tG c p1)) (ht1 : ∀ (s : Shared) (H : Hp) (C : Addr) (cl : List (Str × Addr)) (fp : List Addr), PTs (X'.blk s H scope (compEnvC scope cl C X'.env) fp) ifs1 (tXi c cs1))
    (he : ∀ (s : Shared) (H : Hp) (C : Addr) (cl : List (Str × Addr)) (fp : List Addr), PE (X'.blk s H scope (compEnvC scope cl C X'.env) fp) elt (tX c elx)) (hs : ∀ x, foldedSetIterable iter X'.env x = pure x) (hs1 : ∀ env x, foldedSetIterable iter1 env x = pure x) :
    PE X' (.ListComp elt [⟨tg, iter, ifs, 0⟩, ⟨tg1, iter1, ifs1, 0⟩] scope pos) (tCx c (.comp2 (own.map (·.2)) elx p0 it cs own1 p1 it1 cs1)) :=
  PE.imp (pe_lc2 hc hN hi ok hv hg ht hi1 hg1 ht1 he hs hs1) fun σ H Q h => rd_comp2 σ H Q h hps hps1
/-- a new list, stored to a name by the statement itself -/
theorem asg_own {tl : TE} (h : PS X' st (tAsg tl (gName i))) (rd : ∀ σ H Q, tCx c k σ H Q → tl σ H Q) : PS X' st (tS c (.asg (.nm i) (.own k))) :=
  PS.imp h fun D σ H ⟨φ, env, S, f, S', re, rs, ev, kk⟩ => by
    simp only [evS, evE, evT] at ev
    obtain ⟨d, S1, e1, ev1⟩ := R.bind_ok_inv ev
    obtain ⟨ds, S2, e2, ev2⟩ := R.bind_ok_inv e1
    clear ev e1
    cases ev2
    simp only [R.bind_ok] at ev1
    cases ev1
    refine rd σ H _ ⟨φ, env, S, ds, S2, re, rs, e2, fun φ' H' p xs g1 rs1 r1 h0 h1 h2 => ?_⟩
    have ex : Ext φ' H' (φ' ++ [p]) H' := ⟨List.prefix_append _ _, fun _ _ e => e, fun _ _ _ e => e⟩
    obtain ⟨g2, rs2⟩ := rs1.adopt g1 h0 h1 h2 (o := .lst ds) (RepL.ext ex _ _ r1)
    refine kk _ _ g2 rs2 _ ((re.mono g2).set i (.ref ?_))
    rw [← rs1.len, List.getElem?_append_right (Nat.le_refl _)]
    simp
theorem ps_frz {t : TS} (h : PS X' st t) : PS X' st (fun D σ H => t { D with nx := fun σ' H' => ∃ p xs, H' p = some (.lst xs) ∧ ∀ o, D.nx σ' (upd H' p (.frz o (.lst xs))) } σ H) := by
  refine ⟨fun pins s σ H D I q => thn (h.run pins s σ H _ I q) fun f s1 z => ?_⟩
  cases f with
  | next =>
    obtain ⟨σ', H', I', p, xs, hp, q⟩ := z
    obtain ⟨o, I2⟩ := inv_freeze I' hp
    exact ⟨σ', _, I2, q o⟩
  | brk => exact z
  | cont => exact z
  | ret u => exact z
theorem asg_val {tl : TE} (h : PS X' st (tAsg tl (gName i))) (rd : ∀ σ H Q, tCx c k σ H Q → tl σ H Q) : PS X' st (tS c (.asg (.nm i) (.val k))) :=
  PS.imp (ps_frz h) fun D σ H ⟨φ, env, S, f, S', re, rs, ev, kk⟩ => by
    simp only [evS, evE, evT] at ev
    obtain ⟨d, S1, e1, ev1⟩ := R.bind_ok_inv ev
    obtain ⟨ds, S2, e2, ev2⟩ := R.bind_ok_inv e1
    clear ev e1
    cases ev2
    simp only [R.bind_ok] at ev1
    cases ev1
    refine rd σ H _ ⟨φ, env, S, ds, _, re, rs, e2, fun φ' H' p xs g1 rs1 r1 h0 h1 h2 => ⟨p, xs, h1, fun o => ?_⟩⟩
    exact kk φ' _ (g1.lock h0) (rs1.locked h1 h2) _ ((re.mono (g1.lock h0)).set i (.lst ⟨o, upd_same⟩ (RepL.ext (Ext.lock h1) _ _ r1)))
/-! ### a def's end -/
theorem cleans_mono {φ φ' : List Addr} {H : Hp} {n : Nat} (hn : φ' = φ.take n) (hl : n ≤ φ.length) : True := trivial
mutual
/-- what refers below n alone needs the first n numbers alone -/
theorem Rep.cut {n : Nat} : ∀ (d : D) (v : V), Rep c.g φ H v d → d.clean n = true → Rep c.g (φ.take n) H v d
  | .non, _, h, _ => by cases h; exact .non
  | .bl b, _, h, _ => by cases h; exact .bl b
  | .int i, _, h, _ => by cases h; exact .int i
  | .str x, _, h, _ => by cases h; exact .str x
  | .tup ds, _, h, k => by
    cases h with
    | tup h1 h2 => exact .tup h1 (RepL.cut ds _ h2 (by simpa [D.clean] using k))
  | .lst ds, _, h, k => by
    cases h with
    | lst h1 h2 => exact .lst h1 (RepL.cut ds _ h2 (by simpa [D.clean] using k))
  | .scr ds, _, h, k => by
    cases h with
    | scr h1 h2 => exact .scr h1 (RepL.cut ds _ h2 (by simpa [D.clean] using k))
  | .ref m, _, h, k => by
    cases h with
    | ref h1 =>
      have k : m < n := by simpa [D.clean] using k
      exact .ref (by rw [List.getElem?_take, if_pos k]; exact h1)
  | .fn i, _, h, _ => by cases h; exact .fn i
theorem RepL.cut {n : Nat} : ∀ (ds : List D) (vs : List V), RepL c.g φ H vs ds → cleans n ds = true → RepL c.g (φ.take n) H vs ds
  | [], _, h, _ => by cases h; exact .nil
  | d :: ds, _, h, k => by
    cases h with
    | cons h1 h2 =>
      simp only [cleans, Bool.and_eq_true] at k
      exact .cons (Rep.cut d _ h1 k.1) (RepL.cut ds _ h2 k.2)
end
theorem KRel.cut {n : Nat} : ∀ {kvs : List (D × D)} {xs : List (NestedKey × Addr × V)}, KRel c.g φ H kvs xs → cleans n (kvs.map (·.1)) = true → cleans n (kvs.map (·.2)) = true → KRel c.g (φ.take n) H kvs xs
  | [], [], _, _, _ => trivial
  | [], _ :: _, h, _, _ => h.elim
  | _ :: _, [], h, _, _ => h.elim
  | (k, d) :: kvs, (m, a, v) :: xs, h, h1, h2 => by
    simp only [List.map_cons, cleans, Bool.and_eq_true] at h1 h2
    exact ⟨⟨Rep.cut _ _ h.1.1 h1.1, h.1.2.1, h.1.2.2.1, Rep.cut _ _ h.1.2.2.2 h2.1⟩, KRel.cut h.2 h1.2 h2.2⟩
theorem RepO.cut {n : Nat} {q : Addr} {o : O} {u : Option HO} (h : RepO c.g c.cl φ H q o u) (k : o.clean n = true) : RepO c.g c.cl (φ.take n) H q o u := by
  cases o with
  | lst ds =>
    cases u with
    | none => exact h
    | some u => cases u <;> first | exact h | exact RepL.cut _ _ h (by simpa [O.clean] using k)
  | ins cc fs =>
    cases u with
    | none => exact h
    | some u => cases u <;> first | exact h | exact ⟨h.1, h.2.1, RepL.cut _ _ h.2.2 (by simpa [O.clean] using k)⟩
  | dict kvs =>
    simp only [O.clean, Bool.and_eq_true] at k
    cases u with
    | none => exact h
    | some u =>
      cases u <;> first
        | exact h
        | (obtain ⟨xs, e1, r1⟩ := h; exact ⟨xs, e1, KRel.cut r1 k.1 k.2⟩)
theorem tidy_len : ∀ {n : Nat} {S S' : List O}, tidy n S S' = true → S.length = S'.length
  | _, [], [], _ => rfl
  | _, _ :: _, _ :: _, h => by simp only [tidy, Bool.and_eq_true] at h; simp [tidy_len h.2]
  | _, [], _ :: _, h => by simp [tidy] at h
  | _, _ :: _, [], h => by simp [tidy] at h
theorem tidy_get : ∀ {n : Nat} {S S0 : List O} {i : Nat} {o : O}, tidy n S S0 = true → S[i]? = some o → S0[i]? = some o ∨ o.clean n = true
  | _, [], _, _, _, _, e => by simp at e
  | _, _ :: _, [], _, _, h, _ => by simp [tidy] at h
  | n, a :: S, b :: S0, 0, o, h, e => by
    simp only [tidy, Bool.and_eq_true, Bool.or_eq_true] at h
    simp at e; subst e
    rcases h.1 with h | h
    · exact .inl (by rw [O.beq_eq h]; rfl)
    · exact .inr h
  | n, a :: S, b :: S0, i + 1, o, h, e => by
    simp only [tidy, Bool.and_eq_true] at h
    rcases tidy_get h.2 (by simpa using e) with q | q
    · exact .inl (by simpa using q)
    · exact .inr q
mutual
theorem Rep.clean : ∀ (d : D) (v : V), Rep c.g φ H v d → d.clean φ.length = true
  | .non, _, _ => by simp [D.clean]
  | .bl b, _, _ => by simp [D.clean]
  | .int i, _, _ => by simp [D.clean]
  | .str x, _, _ => by simp [D.clean]
  | .tup ds, _, h => by
    cases h with
    | tup h1 h2 => simpa [D.clean] using RepL.clean ds _ h2
  | .lst ds, _, h => by
    cases h with
    | lst h1 h2 => simpa [D.clean] using RepL.clean ds _ h2
  | .scr ds, _, h => by
    cases h with
    | scr h1 h2 => simpa [D.clean] using RepL.clean ds _ h2
  | .ref m, _, h => by
    cases h with
    | ref h1 => simpa [D.clean] using (List.getElem?_eq_some_iff.mp h1).1
  | .fn i, _, _ => by simp [D.clean]
theorem RepL.clean : ∀ (ds : List D) (vs : List V), RepL c.g φ H vs ds → cleans φ.length ds = true
  | [], _, _ => rfl
  | d :: ds, _, h => by
    cases h with
    | cons h1 h2 => simp [cleans, Rep.clean d _ h1, RepL.clean ds _ h2]
end
theorem KRel.clean : ∀ {kvs : List (D × D)} {xs : List (NestedKey × Addr × V)}, KRel c.g φ H kvs xs → cleans φ.length (kvs.map (·.1)) = true ∧ cleans φ.length (kvs.map (·.2)) = true
  | [], [], _ => ⟨rfl, rfl⟩
  | [], _ :: _, h => h.elim
  | _ :: _, [], h => h.elim
  | (k, d) :: kvs, (m, a, v) :: xs, h => by
    obtain ⟨a, b⟩ := KRel.clean h.2
    exact ⟨by simp only [List.map_cons, cleans, Rep.clean _ _ h.1.1, a]; rfl, by simp only [List.map_cons, cleans, Rep.clean _ _ h.1.2.2.2, b]; rfl⟩
theorem RepO.clean {q : Addr} {o : O} {u : Option HO} (h : RepO c.g c.cl φ H q o u) : o.clean φ.length = true := by
  cases o with
  | lst ds =>
    cases u with
    | none => exact h.elim
    | some u => cases u <;> first | exact h.elim | exact RepL.clean _ _ h
  | ins cc fs =>
    cases u with
    | none => exact h.elim
    | some u => cases u <;> first | exact h.elim | exact RepL.clean _ _ h.2.2
  | dict kvs =>
    cases u with
    | none => exact h.elim
    | some u =>
      cases u <;> first
        | exact h.elim
        | (obtain ⟨xs, e1, r1⟩ := h; obtain ⟨p, q⟩ := KRel.clean r1; simp only [O.clean, p, q]; rfl)
theorem take_pre {φ φ1 : List Addr} (h : φ <+: φ1) : φ1.take φ.length = φ := by
  obtain ⟨t, rfl⟩ := h
  simp
/-- what was made aside is forgotten -/
theorem tidy_ok {φ1 : List Addr} {H1 : Hp} {S2 : List O} (g : Grow φ H φ1 H1) (rs : RS c.g c.cl φ S H) (rs1 : RS c.g c.cl φ1 S2 H1) (t : tidy S.length (S2.take S.length) S = true) :
    Grow φ H φ H1 ∧ RS c.g c.cl φ (S2.take S.length) H1 := by
  have e : φ1.take S.length = φ := by rw [← rs.len]; exact take_pre g.pre
  refine ⟨⟨⟨List.prefix_refl _, g.tups, g.frzs⟩, g.keep, fun b h => .inl h⟩, ⟨by rw [tidy_len t, rs.len], rs.nd, fun n a o h1 h2 => ?_⟩⟩
  have hn : n < S.length := by rw [← rs.len]; exact (List.getElem?_eq_some_iff.mp h1).1
  have h2' : S2[n]? = some o := by rw [List.getElem?_take, if_pos hn] at h2; exact h2
  have r1 := rs1.ob n a o (g.toExt.get h1) h2'
  have oc : o.clean S.length = true := by
    rcases tidy_get t h2 with q | q
    · have := (rs.ob n a o h1 q).clean
      rwa [rs.len] at this
    · exact q
  have := r1.cut (n := S.length) oc
  rwa [e] at this
/-- a new list is told by value: it is locked -/
theorem fin_ok {φ1 : List Addr} {H1 : Hp} {S2 S' : List O} {d d' : D} {v : V} {t : Bool} {D0 : VK} (g : Grow φ H φ1 H1) (rs : RS c.g c.cl φ S H) (rs1 : RS c.g c.cl φ1 S2 H1) (r : Rep c.g φ1 H1 v d) (h : fin t S.length S d S2 = .ok d' S')
    (k : ∀ φ' H' v, Grow φ H φ' H' → RS c.g c.cl φ' S' H' → Rep c.g φ' H' v d' → D0 v H') : D0 v H1 ∨ ∃ p xs, v = .ref p ∧ H1 p = some (.lst xs) ∧ ∀ o, D0 v (upd H1 p (.frz o (.lst xs))) := by
  have plain : (R.ok d S2 : R D) = .ok d' S' → D0 v H1 := fun e => by cases e; exact k φ1 H1 v g rs1 r
  have pre : φ1.take S.length = φ := by rw [← rs.len]; exact take_pre g.pre
  unfold fin at h
  split at h
  · split at h
    · rename_i ht htd
      obtain ⟨g2, rs2⟩ := tidy_ok g rs rs1 htd
      have low : ∀ {d : D}, Rep c.g φ1 H1 v d → d.clean S.length = true → Rep c.g φ H1 v d := fun {d} r hc => by have := Rep.cut d v r hc; rwa [pre] at this
      have low' : ∀ {d : D}, Rep c.g φ1 H1 v d → (if d.clean S.length then (.ok d (S2.take S.length) : R D) else .ok d S2) = .ok d' S' → Rep c.g φ1 H1 v d → D0 v H1 := fun {d} r e r' => by
        split at e
        · rename_i hc
          cases e
          exact k φ H1 v g2 rs2 (low r hc)
        · cases e
          exact k φ1 H1 v g rs1 r
      cases d with
      | ref m =>
        simp only at h
        split at h
        · rename_i hm
          cases h
          exact .inl (k φ H1 v g2 rs2 (low r (by simpa [D.clean] using hm)))
        · rename_i hm
          split at h
          · rename_i l hl
            split at h
            · rename_i hc
              cases h
              obtain ⟨q, xs, rfl, h1, h2, h3⟩ := ref_lst rs1 r hl
              refine .inr ⟨q, xs, rfl, h2, fun o => ?_⟩
              have hq : q ∉ φ := fun z => by
                obtain ⟨n, hn⟩ := List.getElem?_of_mem z
                have e1 := g.toExt.get hn
                obtain ⟨k1, k2⟩ := List.getElem?_eq_some_iff.mp e1
                obtain ⟨k3, k4⟩ := List.getElem?_eq_some_iff.mp h1
                have : n = m := (List.getElem_inj rs1.nd).mp (k2.trans k4.symm)
                subst this
                have := (List.getElem?_eq_some_iff.mp hn).1
                rw [rs.len] at this
                exact hm this
              have h0 : H q = none := by
                rcases g.nw q (List.mem_of_getElem? h1) with z | z
                · exact absurd z hq
                · exact z
              have h3' : RepL c.g φ H1 xs l := by have := RepL.cut l xs h3 hc; rwa [pre] at this
              exact k φ _ _ (g2.lock h0) (rs2.locked h2 hq) (.lst ⟨o, upd_same⟩ (RepL.ext (Ext.lock h2) _ _ h3'))
            · exact .inl (plain h)
          · exact .inl (plain h)
      | non => exact .inl (low' r h r)
      | bl _ => exact .inl (low' r h r)
      | int _ => exact .inl (low' r h r)
      | str _ => exact .inl (low' r h r)
      | tup _ => exact .inl (low' r h r)
      | lst _ => exact .inl (low' r h r)
      | fn _ => exact .inl (low' r h r)
      | scr _ => exact .inl (low' r h r)
    · exact .inl (plain h)
  · exact .inl (plain h)
theorem pss_frz {t : TS} (h : PSs X' body t) : PSs X' body (fun D σ H => t { D with rt := fun v H' => D.rt v H' ∨ ∃ p xs, v = .ref p ∧ H' p = some (.lst xs) ∧ ∀ o, D.rt v (upd H' p (.frz o (.lst xs))) } σ H) := by
  refine ⟨fun pins s σ H D I q => thn (h.run pins s σ H _ I q) fun f s1 z => ?_⟩
  cases f with
  | next => exact z
  | brk => exact z
  | cont => exact z
  | ret u =>
    obtain ⟨v, σ', H', I', rv, q⟩ := z
    rcases q with q | ⟨p, xs, rfl, hp, q⟩
    · exact ⟨v, σ', H', I', rv, q⟩
    · obtain ⟨o, I2⟩ := inv_freeze I' hp
      exact ⟨.ref p, σ', _, I2, rv, q o⟩
theorem start_rel {N : List Str} {vs : List V} {ds : List D} (r : RepL c.g φ H vs ds) : RelE c.g φ H (ds.map some ++ List.replicate (N.length - ds.length) none) (L2.start N vs) := by
  have hl := r.length
  refine ⟨by simp [L2.start, hl], fun i d h => ?_⟩
  by_cases hi : i < ds.length
  · rw [List.getElem?_append_left (by simpa using hi)] at h
    simp only [List.getElem?_map, Option.map_eq_some_iff, Option.some.injEq] at h
    obtain ⟨d', h1, h2⟩ := h
    subst h2
    obtain ⟨v, h3, h4⟩ := r.get h1
    refine ⟨v, ?_, h4⟩
    unfold L2.start
    rw [List.getElem?_append_left (by simp [hl, hi]), List.getElem?_map, h3]
    rfl
  · rw [List.getElem?_append_right (by simpa using hi)] at h
    rw [List.getElem?_replicate] at h
    split at h <;> simp at h
/-- the evaluator's word of a def's body: its end -/
theorem rd_fn {T : List Fn} {k i np : Nat} {F : Fn} {N : List Str} {vs : List V} {Q : VK} {E : XK} (hT : T[i]? = some F) (hp : F.np = np) (hnl : F.nl = N.length) (h : spF { c with cf := evF c.cs T (k + 1) } i np vs H Q E) :
    tB { c with cf := evF c.cs T k } F.body { nx := fun _ H' => Q .non H', rt := fun v H' => Q v H' ∨ ∃ p xs, v = .ref p ∧ H' p = some (.lst xs) ∧ ∀ o, Q v (upd H' p (.frz o (.lst xs))) } (L2.start N vs) H := by
  obtain ⟨φ, S, ds, d, S', rs, r, hl, ev, kk⟩ := h
  simp only [evF, hT, hl, hp, if_true] at ev
  obtain ⟨f1, S1, e1, ev1⟩ := R.bind_ok_inv ev
  clear ev
  refine ⟨φ, _, S, f1, S1, start_rel (c := c) r, rs, by rw [hl, ← hnl]; exact e1, fun φ1 H1 g1 rs1 => ?_⟩
  cases f1 with
  | ret d0 => exact fun v rv => fin_ok g1 rs rs1 rv ev1 kk
  | nx env1 =>
    intro σ1 re1
    rcases fin_ok (v := .non) (D0 := Q) g1 rs rs1 (Rep.non (g := c.g)) ev1 kk with q | ⟨p, xs, e, _⟩
    · exact q
    · cases e
  | bk _ => cases ev1
  | ct _ => cases ev1
/-- a def keeps the evaluator's word -/
theorem fn_sound {P : Program} {w : World} {K : PySem.W.Frag} {mg : Str → Option Value} {base : Heap} {x qual : Str} {st : Stmt} {f : Addr} {fd : FuncData} {N ps : List Str} {T : List Fn} {j k i np : Nat} {F : Fn} (FF : Fun K x qual st f fd) (SC : FnScope N ps (defScope st)) (hT : T[i]? = some F) (hp : F.np = np) (hps : ps.length = np) (hnl : F.nl = N.length)
    (hb : ∀ (cdv : Value) (A : Around) (outer : List PySem.Env) (s : Shared) (H : Hp) (E : XK), Room j (A.deeper (envOfC qual (defScope st) s.heap.objs.size f cdv)) → PSs (cxOf CX0 P w K mg base N qual (defScope st) f cdv A outer s H E).nox (defBody st) (tB { c with cf := evF c.cs T k } F.body)) :
    FnOk P w K mg base CX0 (j + 1) f fd ps (spF { c with cf := evF c.cs T (k + 1) } i np) := by
  refine FF.ok SC (fun vs H Q E h => ?_) fun cdv A outer s H vs Q E hr hsp => ?_
  · obtain ⟨φ, S, ds, d, S', rs, r, hl, ev, kk⟩ := h
    rw [r.length, hl, hps]
  · exact ⟨_, pss_frz (hb cdv A outer s H E hr), rd_fn hT hp hnl hsp⟩
end
end Rx

set_option Elab.async false
set_option autoImplicit false
set_option linter.all false
set_option maxRecDepth 100000
set_option maxHeartbeats 1000000
/-! RxA: sorted, tuples of ranges, len(set(..)), calls by keywords. -/
namespace Rx
open PySem PySem.Spec PyProof.Rows L2
section
variable {c : Cfg} {X' : Cx} {φ : List Addr} {env : Env} {S S1 : List O} {σ : L2.St} {H : Hp}
variable {e a b o : Expr} {xa xb xo : X} {pos p p2 q2 apos : Pos} {x m : Str} {es : List Expr} {i np j : Nat} {xs : List X}
theorem repl_map {β : Type} {f : β → V} {g : β → D} : ∀ {l : List β}, (∀ b ∈ l, Rep c.g φ H (f b) (g b)) → RepL c.g φ H (l.map f) (l.map g)
  | [], _ => .nil
  | b :: l, h => .cons (h b List.mem_cons_self) (repl_map fun d hd => h d (List.mem_cons_of_mem _ hd))
theorem vals_map {β : Type} {f : β → V} {R : Value → β → Prop} (hR : ∀ v b, R v b → RelV (f b) v) : ∀ {us : List Value} {bs : List β}, PySem.W.EachIs R us bs → Vals (bs.map f) us
  | [], [], _ => .nil
  | [], _ :: _, h => by cases h
  | _ :: _, [], h => by cases h
  | u :: us, b :: bs, h => by
    cases h with
    | cons h1 h2 => exact .cons (hR _ _ h1) (vals_map hR h2)
/-- three lists side by side -/
def tri : List V → List D → List PyData → List (V × D × PyData)
  | v :: vs, d :: ds, p :: ps => (v, d, p) :: tri vs ds ps
  | _, _, _ => []
theorem tri_ok : ∀ {vs : List V} {ds : List D} {ps : List PyData} {us : List Value}, RepL c.g φ H vs ds → toPs ds = some ps → Vals vs us →
    PySem.W.EachIs (fun u b => RelV b.1 u) us (tri vs ds ps) ∧ (∀ b ∈ tri vs ds ps, Rep c.g φ H b.1 b.2.1 ∧ b.2.1.toP = some b.2.2) ∧ (tri vs ds ps).map (·.2) = ds.zip ps ∧ (tri vs ds ps).map (fun b => b.2.2) = ps ∧ (tri vs ds ps).length = ds.length
  | _, [], ps, us, r, h, v => by
    cases r; cases v
    simp only [toPs, Option.some.injEq] at h
    subst h
    exact ⟨.nil, fun b hb => by simp [tri] at hb, rfl, rfl, rfl⟩
  | _, d :: ds, ps, us, r, h, v => by
    cases r with
    | cons r1 r2 =>
      cases v with
      | cons v1 v2 =>
        simp only [toPs] at h
        split at h
        · rename_i p0 ps0 e1 e2
          cases h
          obtain ⟨a, b, d, f, g⟩ := tri_ok r2 e2 v2
          refine ⟨.cons v1 a, fun q hq => ?_, by simp [tri, d], by simp [tri, f], by simp [tri, g]⟩
          rcases List.mem_cons.mp hq with rfl | hq
          · exact ⟨r1, e1⟩
          · exact b q hq
        · cases h
theorem each_mono {α β : Type} {R R' : α → β → Prop} : ∀ {as : List α} {bs : List β}, PySem.W.EachIs R as bs → (∀ a b, b ∈ bs → R a b → R' a b) → PySem.W.EachIs R' as bs
  | [], [], _, _ => .nil
  | [], _ :: _, h, _ => by cases h
  | _ :: _, [], h, _ => by cases h
  | a :: as, b :: bs, h, k => by
    cases h with
    | cons h1 h2 => exact .cons (k a b List.mem_cons_self h1) (each_mono h2 fun a' b' hb => k a' b' (List.mem_cons_of_mem _ hb))
/-- sorted, by values: a new list -/
def rSrt (c : Cfg) : List V → Hp → VK → Prop := fun vs H Q => ∃ φ S v d ds ds', RS c.g c.cl φ S H ∧ vs = [v] ∧ Rep c.g φ H v d ∧ lstOf S d = some ds ∧ sortD ds = some ds' ∧
  ∀ p xs', H p = none → RepL c.g φ H xs' ds' → Q (.ref p) (upd H p (.lst xs'))
theorem cr_srt (K : X'.K = c.g.K) (hu : X'.A.units + 200 < cLine) : CallR X' (.builtin "sorted") (rSrt c) := by
  intro pins s σ H vs us Q I r h
  obtain ⟨φ, S, v, d, ds, ds', rs, rfl, rv, hd, hsort, q⟩ := h
  obtain ⟨u, rfl, ru⟩ := vals1 r
  obtain ⟨l, ys, rfl, hl, ry⟩ := lst_inv rs rv hd
  cases ru
  obtain ⟨hz, its, n, rits, _, e⟩ := hl.obj I
  unfold sortD at hsort
  simp only [Option.bind_eq_some_iff] at hsort
  obtain ⟨ps, hps, hsort⟩ := hsort
  split at hsort
  · rename_i hc
    simp only [Option.some.injEq] at hsort
    simp only [Bool.and_eq_true, List.all_eq_true, decide_eq_true_eq] at hc
    obtain ⟨⟨hal, hsb⟩, hdep⟩ := hc
    obtain ⟨t1, t2, t3, t4, t5⟩ := tri_ok ry hps rits
    have al : PySem.W.AllAlike ((tri ys ds ps).map fun b => b.2.2) := by
      rw [t4]
      intro x hx y hy
      unfold allAlike at hal
      simp only [List.all_eq_true] at hal
      exact hal x hx y hy
    have sb : PySem.W.Sortable ((tri ys ds ps).map fun b => b.2.2) := by
      rw [t4]
      unfold sortable at hsb
      simp only [Bool.or_eq_true, List.all_eq_true] at hsb
      rcases hsb with hsb | hsb
      · refine .inl fun x hx => ?_
        have := hsb x hx
        split at this
        · exact ⟨_, _, rfl⟩
        · cases this
      · refine .inr fun x hx => ?_
        have := hsb x hx
        split at this <;> first | cases this | skip
        rename_i h1 h2
        exact ⟨fun z => h1 z, fun xs z => h2 xs z⟩
    have er : PySem.W.EachIs (fun (u : Value) (b : V × D × PyData) => ∃ as, Reads s.heap u b.2.2 as) its (tri ys ds ps) := each_mono t1 fun u b hb ru => by
      obtain ⟨h1, h2⟩ := t2 b hb
      have h3 := Rep.dp _ _ _ h1 h2
      rw [← K] at h3
      exact Dp.reads I _ _ _ h3 ru
    have mem : ∀ b ∈ tri ys ds ps, b.2.2 ∈ ps := fun b hb => by rw [← t4]; exact List.mem_map.mpr ⟨b, hb, rfl⟩
    refine PySem.W.sorted_data (R := fun (u : Value) (b : V × D × PyData) => RelV b.1 u) (enc := fun b : V × D × PyData => b.2.2) ⟨_, e, rfl, n, rfl⟩ t1 er al sb (by rw [t5, ← ry.length]; exact hz) (fun b hb => by have := hdep _ (mem b hb); omega) fun out hlen hout => ?_
    obtain ⟨ep, he'⟩ := PyProof.Rows.sortedAll_at s.heap its out.toArray
    have vs' : Vals (((tri ys ds ps).mergeSort (PySem.W.dataLe false fun b => b.2.2)).map (·.1)) out := vals_map (fun v b h => h) hout
    have len' : (((tri ys ds ps).mergeSort (PySem.W.dataLe false fun b => b.2.2)).map (·.1)).length ≤ sizeLine := by
      rw [List.length_map, List.length_mergeSort, t5, ← ry.length]; exact hz
    have hn : H (s.heap.objs.size + 1) = none := I.hok.fresh (Nat.le_succ _)
    refine ⟨.ref _, upd H (s.heap.objs.size + 1) (.lst _), I.laid (t' := s.toks) (fun _ _ => PyProof.Rows.sortedAll_old) (Nat.le_succ _) ⟨len', out, ep, vs', he'⟩, rfl, q _ _ hn ?_⟩
    have e2 : ds' = ((tri ys ds ps).mergeSort (PySem.W.dataLe false fun b => b.2.2)).map (fun b => b.2.1) := by
      rw [← hsort, ← t3, ← PySem.W.sort_maps (r := PySem.W.dataLe false fun b : V × D × PyData => b.2.2) (f := fun b : V × D × PyData => b.2) (fun a _ b _ => rfl), List.map_map]
      rfl
    rw [e2]
    refine repl_map fun b hb => (t2 b ?_).1
    exact (List.mergeSort_perm _ _).mem_iff.mp hb
  · cases hsort
theorem snd_sorted (K : X'.K = c.g.K) (hu : X'.A.units + 200 < cLine) (B : Blt X' "sorted") (ha : PE X' a (tX c xa)) (hs : starEach [a] X'.env = [(false, eval a X'.env)]) : PE X' (.Call (.Name "sorted" p) [a] [] pos) (tCx c (.sorted xa false)) :=
  PE.imp (pe_callB (cr_srt (X' := X') (c := c) K hu) B.gl B.no (by decide +kernel) (snd_cons ha snd_nil hs) (by decide) (by decide) hs rfl) fun σ H Q ⟨φ, env, S, d, S', re, rs, ev, k⟩ => by
    simp only [evC] at ev
    obtain ⟨d1, S1, e1, ev1⟩ := R.bind_ok_inv ev
    clear ev
    obtain ⟨e2, rfl⟩ := R.of_inv ev1
    simp only [Bool.false_eq_true, if_false, Option.bind_eq_some_iff] at e2
    obtain ⟨l, e3, e4⟩ := e2
    refine gos (ds := [d1]) (S1 := S1) re rs (by simp [evEs, e1]) fun φ1 H1 vs g1 rs1 re1 r1 => ?_
    obtain ⟨v, rfl, rv⟩ := one_inv r1
    refine ⟨φ1, S1, v, d1, l, d, rs1, rfl, rv, e3, e4, fun w ys hw ry => ?_⟩
    have g2 : Grow φ1 H1 φ1 (upd H1 w (.lst ys)) := Grow.new hw
    exact k φ1 _ w ys (g1.trans g2) (rs1.new hw) (RepL.mono g2 _ _ ry) (fresh_before g1 rs1 hw) upd_same (rs1.free hw)
/-! ### tuple(range(..)) -/
theorem rg_rep {a b : Int} : RepL c.g φ H (rgV a b) (rngL a (b - a).toNat) := by
  unfold rgV rngL
  exact repl_map fun i _ => .int _
theorem snd_tupr1 (hc : X'.calm = true) (B : Blt X' "tuple") (B2 : Blt X' "range") (ha : PE X' a (tX c xa)) (hs : starEach [a] X'.env = [(false, eval a X'.env)]) : PE X' (.Call (.Name "tuple" p) [.Call (.Name "range" p2) [a] [] q2] [] pos) (tX c (.tupr [xa])) :=
  PE.imp (pe_tupRg hc B.gl B.no (prg_1 B2.gl B2.no ha hs) rfl) fun σ H Q ⟨φ, env, S, d, S', re, rs, ev, k⟩ => by
    simp only [evE, evEs] at ev
    obtain ⟨ds, S1, e1, ev1⟩ := R.bind_ok_inv ev
    obtain ⟨d1, S2, e2, e3⟩ := R.bind_ok_inv e1
    clear ev e1
    cases e3
    split at ev1
    · rename_i r hr
      split at ev1
      · rename_i hz
        cases ev1
        cases d1 <;> simp only [rngD, reduceCtorEq] at hr
        split at hr
        · rename_i hb
          cases hr
          refine go re rs e2 fun φ1 H1 v g1 rs1 re1 r1 => ?_
          cases r1.int_inv
          rename_i n
          have z1 : -(2 ^ 62 : Int) = -4611686018427387904 := by decide
          have z2 : (2 ^ 62 : Int) = 4611686018427387904 := by decide
          have hz2 : n.toNat ≤ 16777216 := by
            have := of_decide_eq_true hz
            simpa [rngL] using this
          refine ⟨n, rfl, ⟨by decide, by decide, by rw [z1]; exact hb.1, by rw [z2]; exact hb.2, by simpa using hz2⟩, fun w hw => ?_⟩
          have o : Out c.g c.cl φ1 S' H1 Q (.tup (rngL 0 (n - 0).toNat)) := by
            rw [show n - 0 = n by omega]
            exact out_of g1 k
          exact newtup rs1 rg_rep o hw
        · cases hr
      · cases ev1
    · cases ev1
/-! ### calls by keywords alone, in the parameters' order -/
structure KwF (c : Cfg) (X' : Cx) (j i : Nat) (ps : List Str) (f : Addr) : Prop where
  kp : PySem.W.keepIn X'.K (.ref f) = true
  ok : ∃ fd : FuncData, FnOk X'.prog X'.w X'.K X'.mg X'.base CX0 j f fd ps (spF c i ps.length) ∧ ∀ (s : Shared) (us : List Value), us.length = ps.length → BindsTo s fd ⟨[], ps.zip us⟩ (ps.zip us)
theorem kw_names {env : PySem.Env} {pos : Pos} : ∀ {kws : List Keyword} {ps : List Str}, kws.map (·.arg) = ps.map some →
    (backToKw pos (keywordEach kws env)).filterMap (·.1) = ps ∧ (backToKw pos (keywordEach kws env)).all (·.1.isSome) = true ∧ (backToKw pos (keywordEach kws env)).any (·.1.isNone) = false
  | [], [], _ => ⟨rfl, rfl, rfl⟩
  | [], _ :: _, h => by simp at h
  | _ :: _, [], h => by simp at h
  | ⟨nm, v, q⟩ :: kws, n :: ps, h => by
    simp only [List.map_cons, List.cons.injEq] at h
    obtain ⟨h1, h2⟩ := h
    have h1 : nm = some n := h1
    subst h1
    obtain ⟨a, b, d⟩ := kw_names (env := env) (pos := pos) h2
    refine ⟨?_, ?_, ?_⟩
    · show ((some n, _) :: backToKw pos (keywordEach kws env)).filterMap (·.1) = _
      simp [a]
    · show ((some n, _) :: backToKw pos (keywordEach kws env)).all (·.1.isSome) = _
      rw [List.all_cons, b]; rfl
    · show ((some n, _) :: backToKw pos (keywordEach kws env)).any (·.1.isNone) = _
      rw [List.any_cons, d]; rfl
theorem PK.imp {k : List Keyword} {t t' : TA} (h : PK X' k t) (i : ∀ σ H Q, t' σ H Q → t σ H Q) : PK X' k t' := ⟨fun pos pins s σ H Q I q => h.run pos pins s σ H Q I (i σ H Q q)⟩
theorem snd_k0 : PK X' [] (tXs c []) := PK.imp pk_nil fun σ H Q ⟨φ, env, S, d, S', re, rs, ev, k⟩ => by
  simp only [evEs] at ev
  cases ev
  exact k φ H [] (Grow.refl _ _) rs .nil
theorem snd_k1 {kws : List Keyword} {nm : Option Str} {kpos : Pos} {xx : X} (ha : PE X' e (tX c xx)) (hr : PK X' kws (tXs c xs)) : PK X' (⟨nm, e, kpos⟩ :: kws) (tXs c (xx :: xs)) :=
  PK.imp (pk_cons ha hr) fun σ H Q ⟨φ, env, S, d, S', re, rs, ev, k⟩ => by
    simp only [evEs] at ev
    obtain ⟨d1, S1, e1, ev1⟩ := R.bind_ok_inv ev
    obtain ⟨d2, S2, e2, ev2⟩ := R.bind_ok_inv ev1
    clear ev ev1
    cases ev2
    exact go re rs e1 fun φ1 H1 v g1 rs1 re1 r1 => gos re1 rs1 e2 fun φ2 H2 vs g2 rs2 _ r2 => k φ2 H2 _ (g1.trans g2) rs2 (.cons (Rep.mono g2 _ _ r1) r2)
theorem snd_callK {kws : List Keyword} {ps : List Str} {f : Addr} (F : KwF c X' j i ps f) (hr : Room j X'.A) (hg : Gl X' x) (hm : X'.mg x = some (.ref f)) (hl : xs.length = ps.length) (h : PK X' kws (tXs c xs)) (hn : kws.map (·.arg) = ps.map some) (hdb : (x == ("__debug__" : Str)) = false) :
    PE X' (.Call (.Name x p) [] kws pos) (tX c (.call i xs)) := by
  obtain ⟨fd, G, hb⟩ := F.ok
  refine ⟨fun pins s σ H Q I ⟨φ, env, S, d, S', re, rs, ev, k⟩ => ?_⟩
  simp only [evE] at ev
  obtain ⟨d1, S1, e1, ev1⟩ := R.bind_ok_inv ev
  clear ev
  obtain ⟨n1, n2, n3⟩ := kw_names (env := X'.env) (pos := pos) hn
  refine wpAny_Call_Name_kw (ld_glob I hg hm ?_ hdb)
  refine PySem.W.callWith_KW0 (h₀ := X'.base) I.ok.mod.kin F.kp n2 (thn (h.run pos pins s σ H (fun zs H1 => spF c i ps.length zs H1 Q E0) I (gos re rs e1 fun φ1 H1 vs g1 rs1 re1 r1 => sp_of ((evEs_length e1).trans hl) rs1 r1 ev1 g1 k)) fun ws s2 ⟨zs, H2, I2, rz, q2⟩ => ⟨I2.kIn, ?_⟩) (by rw [n3]; rfl)
  rw [n1]
  have hw : ws.length = ps.length := by rw [← rz.length]; exact G.len _ _ _ _ q2
  refine wpAny_call (codeAny_mono (G.run X'.A X'.stack s2 H2 ⟨[] ++ [], ps.zip ws⟩ ws zs Q E0 hr I2.env0 (hb s2 ws hw) rz q2) fun r s' hq => ?_)
  cases r with
  | error e => exact absurd hq (fun z => z)
  | ok fl =>
    cases fl with
    | ret u => exact I2.after hq
    | next => exact False.elim hq
    | brk => exact False.elim hq
    | cont => exact False.elim hq
/-! ### len(set(t)), t a tuple of ints -/
theorem nubI_mem (k : Int) : ∀ l : List Int, k ∈ nubI l ↔ k ∈ l
  | [] => Iff.rfl
  | p :: l => by
    unfold nubI
    split
    · rename_i h
      have h : p ∈ l := by simpa using h
      rw [nubI_mem k l]
      constructor
      · exact fun z => List.mem_cons_of_mem _ z
      · intro z
        rcases List.mem_cons.mp z with rfl | z
        · exact h
        · exact z
    · simp [nubI_mem k l]
theorem nubI_nodup : ∀ l : List Int, (nubI l).Nodup
  | [] => List.nodup_nil
  | p :: l => by
    unfold nubI
    split
    · exact nubI_nodup l
    · rename_i h
      refine List.nodup_cons.mpr ⟨fun z => h ?_, nubI_nodup l⟩
      simpa using (nubI_mem p l).mp z
theorem lenset_inv {S : List O} {d1 d : D} (h : biD S .lenset [d1] = some d) : ∃ l ks, d1 = .tup l ∧ intsD l = some ks ∧ ks.length < 64 ∧ d = .int (nubI ks).length := by
  cases d1 <;> simp only [biD, reduceCtorEq, Option.bind_eq_some_iff] at h
  obtain ⟨ks, h1, h2⟩ := h
  split at h2
  · rename_i hz
    cases h2
    exact ⟨_, ks, rfl, h1, hz, rfl⟩
  · cases h2
theorem snd_lenset (K : X'.K = c.g.K) (hc : X'.calm = true) (B : Blt X' "len") (B2 : Blt X' "set") (ha : PE X' a (tX c xa)) (hs : starEach [a] X'.env = [(false, eval a X'.env)]) : PE X' (.Call (.Name "len" p) [.Call (.Name "set" p2) [a] [] q2] [] pos) (tX c (.bi .lenset [xa])) := by
  refine ⟨fun pins s σ H Q I ⟨φ, env, S, d, S', re, rs, ev, k⟩ => ?_⟩
  simp only [evE, evEs] at ev
  obtain ⟨ds, S1, e1, ev1⟩ := R.bind_ok_inv ev
  obtain ⟨d1, S2, e2, e3⟩ := R.bind_ok_inv e1
  clear ev e1
  cases e3
  obtain ⟨e4, rfl⟩ := R.of_inv ev1
  obtain ⟨l, ks, rfl, h1, hz, rfl⟩ := lenset_inv e4
  refine Call_ (ld_blt I B.gl B.no PySem.boot_len ?_)
  refine PyProof.Rows.callWith_builtin1 (PyProof.Rows.args_cons ?_ rfl) rfl rfl
  refine Call_ (ld_blt I B2.gl B2.no PyProof.Rows.boot_set ?_)
  refine PyProof.Rows.callWith_type1 (PyProof.Rows.args_cons (thn (ha.run pins s σ H (fun v H1 => ∃ φ1, Grow φ H φ1 H1 ∧ RS c.g c.cl φ1 S1 H1 ∧ Rep c.g φ1 H1 v (.tup l)) I (go re rs e2 fun φ1 H1 v g1 rs1 re1 r1 => ⟨φ1, g1, rs1, r1⟩)) fun v s1 ⟨x, H1, I1, r1, q1⟩ => PyProof.Rows.args_nil ?_) hs) hs rfl
  obtain ⟨φ1, g1, rs1, rx⟩ := q1
  obtain ⟨t, ys, rfl, hq, ry⟩ := tup_inv rx
  cases r1
  rw [← K, ints_rep ry h1] at hq
  obtain ⟨its, r, pl, hz2⟩ := I1.tuple hq
  refine call_set_tupI ks (I1.ok.hd hc) pl (by simpa using r.ints) (by unfold scanBound; omega) fun h' tk cc hS hcc hk => ?_
  refine PyProof.Rows.args_nil ?_
  obtain ⟨o, es, ep, tt, ho, hex, hd, hg, hnd, hmem, _, hf, hn, _⟩ := hS
  have I2 : Inv X' pins σ H1 { s1 with heap := h', toks := tk } := I1.kept hk
  have len : es.size = (nubI ks).length := by
    have pm : (es.toList.map keyOf).Perm (nubI ks) := (List.perm_ext_iff_of_nodup hnd (nubI_nodup ks)).mpr fun z => by
      rw [nubI_mem, ← hmem z]; simp
    have := pm.length_eq
    simpa using this
  refine call_len_set ho hex hd hf (by omega) ⟨.int (nubI ks).length, H1, I2.tok _, ⟨_, by rw [len]⟩, k φ1 H1 _ g1 rs1 (.int _)⟩
end
end Rx

set_option Elab.async false
set_option autoImplicit false
set_option linter.all false
set_option maxRecDepth 100000
set_option maxHeartbeats 1000000
/-! RxB: dicts with tuples as keys. -/
namespace Rx
open PySem PySem.Spec PyProof.Rows L2
section
variable {c : Cfg} {X' : Cx} {φ : List Addr} {env : Env} {S S1 : List O} {σ : L2.St} {H : Hp} {pins : List (Addr × Obj)} {s : Shared}
variable {e a b o : Expr} {xa xb xo : X} {pos p p2 q2 apos : Pos} {x m : Str} {es : List Expr} {i np j : Nat} {xs : List X}
abbrev Tr (p : NestedKey × Addr × V) (q : NestedKey × Addr × Value) : Prop := p.1 = q.1 ∧ p.2.1 = q.2.1 ∧ RelV p.2.2 q.2.2
mutual
theorem nest_is (K : X'.K = c.g.K) (I : Inv X' pins σ H s) : ∀ (d : D) (v : V) (u : Value) (k : NestedKey), Rep c.g φ H v d → keyN d = some k → RelV v u → NestedIs s.heap k u
  | .non, _, _, k, r, h, ru => by cases r; cases ru; simp only [keyN, Option.some.injEq] at h; subst h; exact .none
  | .bl b, _, _, k, r, h, ru => by cases r; cases ru; simp only [keyN, Option.some.injEq] at h; subst h; exact .bool rfl
  | .int i, _, _, k, r, h, ru => by cases r; obtain ⟨t, rfl⟩ := ru; simp only [keyN, Option.some.injEq] at h; subst h; exact .int _ _
  | .str i, _, _, k, r, h, ru => by cases r; obtain ⟨t, rfl⟩ := ru; simp only [keyN, Option.some.injEq] at h; subst h; exact .text _ _
  | .tup l, v, u, k, r, h, ru => by
    simp only [keyN, Option.map_eq_some_iff] at h
    obtain ⟨ks, h1, rfl⟩ := h
    obtain ⟨q, ys, rfl, hq, ry⟩ := tup_inv r
    cases ru
    rw [← K] at hq
    obtain ⟨its, rv, ⟨o, ho, hc, n, hd⟩, _⟩ := I.tuple hq
    exact .tup ho hc hd (by simpa using nests_is K I l ys its ks ry h1 rv)
  | .lst _, _, _, _, _, h, _ => by simp [keyN] at h
  | .ref _, _, _, _, _, h, _ => by simp [keyN] at h
  | .fn _, _, _, _, _, h, _ => by simp [keyN] at h
  | .scr _, _, _, _, _, h, _ => by simp [keyN] at h
theorem nests_is (K : X'.K = c.g.K) (I : Inv X' pins σ H s) : ∀ (ds : List D) (vs : List V) (us : List Value) (ks : List NestedKey), RepL c.g φ H vs ds → keyNs ds = some ks → Vals vs us → NestedAll s.heap ks us
  | [], vs, us, ks, r, h, ru => by cases r; cases ru; simp only [keyNs, Option.some.injEq] at h; subst h; exact .nil
  | d :: ds, vs, us, ks, r, h, ru => by
    cases r with
    | cons r1 r2 =>
      cases ru with
      | cons u1 u2 =>
        simp only [keyNs] at h
        split at h
        · rename_i p0 r0 e1 e2
          cases h
          exact .cons (nest_is K I d _ _ _ r1 e1 u1) (nests_is K I ds _ _ _ r2 e2 u2)
        · cases h
end
theorem okKey_inv {kvs : List (D × D)} {d : D} {n : NestedKey} (h : okKey kvs d = some n) : keyN d = some n ∧ n.depth ≤ 8 ∧ ∃ l, d = .tup l := by
  unfold okKey at h
  split at h
  · rename_i ht
    split at h
    · simp only [Option.bind_eq_some_iff] at h
      obtain ⟨k, h1, h2⟩ := h
      split at h2
      · rename_i hd
        cases h2
        cases d <;> simp [isTup] at ht
        exact ⟨h1, hd, _, rfl⟩
      · cases h2
    · cases h
  · cases h
theorem key_is (K : X'.K = c.g.K) (I : Inv X' pins σ H s) {kvs : List (D × D)} {d : D} {n : NestedKey} {v : V} {u : Value} (h : okKey kvs d = some n) (r : Rep c.g φ H v d) (ru : RelV v u) :
    ∃ b, v = .ref b ∧ u = .ref b ∧ (nestedKind X'.prog X'.w).is s.heap n b := by
  obtain ⟨h1, h2, l, rfl⟩ := okKey_inv h
  obtain ⟨q, ys, rfl, hq, ry⟩ := tup_inv r
  cases ru
  exact ⟨q, rfl, rfl, nest_is K I _ _ _ _ r h1 rfl, h2⟩
theorem keys_is (K : X'.K = c.g.K) (I : Inv X' pins σ H s) : ∀ {kvs : List (D × D)} {xs : List (NestedKey × Addr × V)} {vs : List (NestedKey × Addr × Value)}, KRel c.g φ H kvs xs → Paired Tr xs vs → ∀ x ∈ vs, (nestedKind X'.prog X'.w).is s.heap x.1 x.2.1
  | [], [], _, _, p, x, hx => by cases p; simp at hx
  | [], _ :: _, _, h, _, _, _ => h.elim
  | _ :: _, [], _, h, _, _, _ => h.elim
  | (k, d) :: kvs, (n, a, v) :: xs, _, h, p, x, hx => by
    cases p with
    | cons p1 p2 =>
      rcases List.mem_cons.mp hx with rfl | hx
      · obtain ⟨e1, e2, _⟩ := p1
        rw [← e1, ← e2]
        exact ⟨nest_is K I _ _ _ _ h.1.1 h.1.2.1 rfl, h.1.2.2.1⟩
      · exact keys_is K I h.2 p2 x hx
/-- the dict of number n, as the rules want it -/
theorem dict_at (K : X'.K = c.g.K) (hP : X'.prog = c.g.P) (hw : X'.w = c.g.w) (I : Inv X' pins σ H s) {n : Nat} {v : V} {kvs : List (D × D)} (rs : RS c.g c.cl φ S H) (r : Rep c.g φ H v (.ref n)) (h : S[n]? = some (.dict kvs)) :
    ∃ q xs vs, v = .ref q ∧ φ[n]? = some q ∧ H q = some (.ext (rawD X'.prog X'.w q xs)) ∧ KRel c.g φ H kvs xs ∧ Paired Tr xs vs ∧ (q == sysModules) = false ∧ xs.length ≤ sizeLine ∧ s.heap.DictOfH (nestedKind X'.prog X'.w) q vs := by
  cases r with
  | @ref q _ h1 =>
    obtain ⟨o, u, e, hu, ro⟩ := rs.at h1
    rw [h] at e; cases e
    cases u <;> first | exact ro.elim | skip
    obtain ⟨xs, rfl, kr⟩ := ro
    rw [← hP, ← hw] at hu
    obtain ⟨h2, _, _⟩ := (show ObjOk X'.prog X'.w H s.heap q (.ext _) from I.hok q _ hu)
    obtain ⟨k1, k2, vs, k3, o, es, ep, k4, k5, k6, k7, k8⟩ := h2
    exact ⟨q, xs, vs, rfl, h1, hu, kr, k3, k1, k2, o, es, ep, k4, k5, k6, k7, keys_is K I kr k3, k8⟩
theorem at_rel {n : NestedKey} : ∀ {kvs : List (D × D)} {xs : List (NestedKey × Addr × V)} {vs : List (NestedKey × Addr × Value)}, KRel c.g φ H kvs xs → Paired Tr xs vs →
    (atK kvs n = none ∧ atKey vs n = none) ∨ ∃ d v q, atK kvs n = some d ∧ atKey vs n = some q ∧ RelV v q.2 ∧ Rep c.g φ H v d
  | [], [], _, _, p => by cases p; exact .inl ⟨rfl, rfl⟩
  | [], _ :: _, _, h, _ => h.elim
  | _ :: _, [], _, h, _ => h.elim
  | (k, d) :: kvs, (m, a, v) :: xs, _, h, p => by
    cases p with
    | @cons _ q _ vs p1 p2 =>
      obtain ⟨e1, e2, e3⟩ := p1
      obtain ⟨m', a', u⟩ := q
      have e1 : m = m' := e1
      subst e1
      by_cases hn : m = n
      · subst hn
        refine .inr ⟨d, v, (a', u), ?_, ?_, e3, h.1.2.2.2⟩
        · simp [atK, List.find?_cons, h.1.2.1]
        · simp [atKey, List.find?_cons]
      · have k1 : atK ((k, d) :: kvs) n = atK kvs n := by
          simp [atK, List.find?_cons, h.1.2.1, hn]
        have k2 : atKey ((m, a', u) :: vs) n = atKey vs n := by
          simp [atKey, List.find?_cons, hn]
        rw [k1, k2]
        exact at_rel h.2 p2
theorem KRel.snoc {k d : D} {n : NestedKey} {q : Addr} {v : V} (h1 : Rep c.g φ H (.ref q) k) (h2 : keyN k = some n) (h3 : n.depth ≤ 8) (h4 : Rep c.g φ H v d) : ∀ {kvs : List (D × D)} {xs : List (NestedKey × Addr × V)}, KRel c.g φ H kvs xs → KRel c.g φ H (kvs ++ [(k, d)]) (xs ++ [(n, q, v)])
  | [], [], _ => ⟨⟨h1, h2, h3, h4⟩, trivial⟩
  | [], _ :: _, h => h.elim
  | _ :: _, [], h => h.elim
  | _ :: _, _ :: _, h => ⟨h.1, KRel.snoc h1 h2 h3 h4 h.2⟩
theorem KRel.repl {d : D} {n : NestedKey} {v : V} (h4 : Rep c.g φ H v d) : ∀ {kvs : List (D × D)} {xs : List (NestedKey × Addr × V)}, KRel c.g φ H kvs xs → KRel c.g φ H (kvs.map fun kv => if keyN kv.1 = some n then (kv.1, d) else kv) (xs.map fun x => if x.1 = n then (x.1, x.2.1, v) else x)
  | [], [], _ => trivial
  | [], _ :: _, h => h.elim
  | _ :: _, [], h => h.elim
  | (k, d0) :: kvs, (m, a, w) :: xs, h => by
    show KRel c.g φ H ((if keyN k = some n then (k, d) else (k, d0)) :: kvs.map fun kv => if keyN kv.1 = some n then (kv.1, d) else kv) ((if m = n then (m, a, v) else (m, a, w)) :: xs.map fun x => if x.1 = n then (x.1, x.2.1, v) else x)
    by_cases hm : m = n
    · rw [if_pos hm, if_pos (by rw [h.1.2.1, hm])]
      exact ⟨⟨h.1.1, h.1.2.1, h.1.2.2.1, h4⟩, KRel.repl h4 h.2⟩
    · rw [if_neg hm, if_neg (by rw [h.1.2.1]; simpa using hm)]
      exact ⟨h.1, KRel.repl h4 h.2⟩
theorem paired_snoc {p : NestedKey × Addr × V} {q : NestedKey × Addr × Value} (h : Tr p q) : ∀ {xs : List (NestedKey × Addr × V)} {vs : List (NestedKey × Addr × Value)}, Paired Tr xs vs → Paired Tr (xs ++ [p]) (vs ++ [q])
  | [], [], _ => .cons h .nil
  | [], _ :: _, k => by cases k
  | _ :: _, [], k => by cases k
  | _ :: _, _ :: _, k => by
    cases k with
    | cons k1 k2 => exact .cons k1 (paired_snoc h k2)
theorem paired_repl {n : NestedKey} {v : V} {u : Value} (h : RelV v u) : ∀ {xs : List (NestedKey × Addr × V)} {vs : List (NestedKey × Addr × Value)}, Paired Tr xs vs → Paired Tr (xs.map fun x => if x.1 = n then (x.1, x.2.1, v) else x) (vs.map (putAt n u))
  | [], [], _ => .nil
  | [], _ :: _, k => by cases k
  | _ :: _, [], k => by cases k
  | (m, a, w) :: xs, (m', a', w') :: vs, k => by
    cases k with
    | cons k1 k2 =>
      obtain ⟨e1, e2, e3⟩ := k1
      have e1 : m = m' := e1
      have e2 : a = a' := e2
      subst e1; subst e2
      refine .cons ?_ (paired_repl h k2)
      unfold putAt
      by_cases hm : m = n
      · simp only [hm, if_true]; exact ⟨rfl, rfl, h⟩
      · simp only [hm, if_false]; exact ⟨rfl, rfl, e3⟩
theorem put_rel {n : NestedKey} {k d : D} {q : Addr} {v : V} {u : Value} {kvs : List (D × D)} {xs : List (NestedKey × Addr × V)} {vs : List (NestedKey × Addr × Value)} (h1 : Rep c.g φ H (.ref q) k) (h2 : keyN k = some n) (h3 : n.depth ≤ 8) (h4 : Rep c.g φ H v d) (ru : RelV v u)
    (kr : KRel c.g φ H kvs xs) (pr : Paired Tr xs vs) : ∃ xs', KRel c.g φ H (putD2 kvs n k d) xs' ∧ Paired Tr xs' (storedH vs n q u) ∧ xs'.length ≤ xs.length + 1 := by
  rcases at_rel (n := n) kr pr with ⟨e1, e2⟩ | ⟨d0, v0, q0, e1, e2, _, _⟩
  · refine ⟨xs ++ [(n, q, v)], ?_, ?_, by simp⟩
    · unfold putD2
      rw [e1]
      exact KRel.snoc h1 h2 h3 h4 kr
    · rw [storedH_new e2]
      exact paired_snoc ⟨rfl, rfl, ru⟩ pr
  · refine ⟨xs.map fun x => if x.1 = n then (x.1, x.2.1, v) else x, ?_, ?_, ?_⟩
    · unfold putD2
      rw [e1]
      exact KRel.repl h4 kr
    · rw [storedH_old e2]
      exact paired_repl ru pr
    · simp
/-- behind a store -/
theorem dict_put (hP : X'.prog = c.g.P) (hw : X'.w = c.g.w) (I : Inv X' pins σ H s) {n : Nat} {q b : Addr} {kvs : List (D × D)} {k d : D} {nk : NestedKey} {v : V} {u : Value} {xs : List (NestedKey × Addr × V)} {vs : List (NestedKey × Addr × Value)} {h' : Heap} {tk : Nat} (rs : RS c.g c.cl φ S H)
    (hφ : φ[n]? = some q) (hH : H q = some (.ext (rawD X'.prog X'.w q xs))) (kr : KRel c.g φ H kvs xs) (pr : Paired Tr xs vs) (hq : (q == sysModules) = false) (hz : xs.length < sizeLine) (rk : Rep c.g φ H (.ref b) k) (hk : keyN k = some nk) (hd : nk.depth ≤ 8) (rv : Rep c.g φ H v d) (ru : RelV v u)
    (hm : h'.DictOfH (nestedKind X'.prog X'.w) q (storedH vs nk b u)) (hs : Heap.SameBut q s.heap h') : ∃ H', Inv X' pins σ H' { s with heap := h', toks := tk } ∧ Grow φ H φ H' ∧ RS c.g c.cl φ (S.set n (.dict (putD2 kvs nk k d))) H' := by
  obtain ⟨xs', k1, k2, k3⟩ := put_rel rk hk hd rv ru kr pr
  obtain ⟨o, es, ep, m1, m2, m3, m4, _, m6⟩ := hm
  have new : ObjOk X'.prog X'.w (upd H q (.ext (rawD X'.prog X'.w q xs'))) h' q (.ext (rawD X'.prog X'.w q xs')) := by
    refine ⟨⟨hq, by omega, _, k2, o, es, ep, m1, m2, m3, m4, m6⟩, ⟨o, m1⟩, fun g1 g2 z kp => ?_⟩
    obtain ⟨z1, z2, vs', z3, o', es', ep', z4, z5⟩ := z
    exact ⟨z1, z2, vs', z3, o', es', ep', kp o' z4, z5⟩
  have I2 := d_write (t' := tk) I (by rw [hH]; trivial) hs ⟨o, m1⟩ new
  have g : Grow φ H φ (upd H q (.ext (rawD X'.prog X'.w q xs'))) := Grow.mut hH trivial (List.mem_of_getElem? hφ)
  exact ⟨_, I2, g, (rs.set hφ (o := .dict (putD2 kvs nk k d)) (u := .ext (rawD X'.prog X'.w q xs')) ⟨xs', by rw [hP, hw], KRel.ext g.toExt k1⟩).2⟩
theorem room_n {A : Around} (hu : A.units + 200 < cLine) : (nestedKind X'.prog X'.w).room A.in1 := by
  show A.units + 1 + 8 < cLine
  omega
/-! ### the rules -/
theorem dget_inv {S : List O} {x y : D} {r : Option D} (h : dgetD S x y = some r) : ∃ n kvs k, x = .ref n ∧ S[n]? = some (.dict kvs) ∧ okKey kvs y = some k ∧ r = atK kvs k := by
  unfold dgetD at h
  split at h
  · rename_i n
    split at h
    · rename_i kvs e
      simp only [Option.map_eq_some_iff] at h
      obtain ⟨k, h1, rfl⟩ := h
      exact ⟨n, kvs, k, rfl, e, h1, rfl⟩
    · cases h
  · cases h
theorem op_din (K : X'.K = c.g.K) (hP : X'.prog = c.g.P) (hw : X'.w = c.g.w) (hu : X'.A.units + 200 < cLine) (neg : Bool) : OpR X' (compareOp (if neg then .NotIn else .In)) (fun x y H Q => ∃ φ S dx dy r, RS c.g c.cl φ S H ∧ Rep c.g φ H x dx ∧ Rep c.g φ H y dy ∧ dgetD S dy dx = some r ∧ Q (.bl (r.isSome ^^ neg)) H) := by
  intro pins s σ H x y v u Q I rx ry h
  obtain ⟨φ, S, dx, dy, r, rs, px, py, e, q⟩ := h
  obtain ⟨n, kvs, k, rfl, e1, e2, rfl⟩ := dget_inv e
  obtain ⟨b, rfl, rfl, kb⟩ := key_is K I e2 px rx
  obtain ⟨a, xs, vs, rfl, h1, h2, h3, h4, h5, h6, h7⟩ := dict_at K hP hw I rs py e1
  cases ry
  have key : (atKey vs k).isSome = (atK kvs k).isSome := by
    rcases at_rel (n := k) h3 h4 with ⟨z1, z2⟩ | ⟨d0, v0, q0, z1, z2, _, _⟩ <;> rw [z1, z2] <;> rfl
  cases neg with
  | false =>
    refine wpAny_in_heap (room_n hu) kb h5 h7 ⟨.bl _, H, I.tok _, rfl, ?_⟩
    rw [key]
    simpa using q
  | true =>
    refine wpAny_notIn_heap (room_n hu) kb h5 h7 ⟨.bl _, H, I.tok _, rfl, ?_⟩
    rw [key]
    simpa using q
theorem rd_din {neg : Bool} : ∀ σ H Q, tX c (.din neg xa xb) σ H Q → tOp (fun x y H Q => ∃ φ S dx dy r, RS c.g c.cl φ S H ∧ Rep c.g φ H x dx ∧ Rep c.g φ H y dy ∧ dgetD S dy dx = some r ∧ Q (.bl (r.isSome ^^ neg)) H) (tX c xa) (tX c xb) σ H Q := fun σ H Q ⟨φ, env, S, d, S', re, rs, ev, k⟩ => by
  simp only [evE] at ev
  obtain ⟨d1, S1, e1, ev1⟩ := R.bind_ok_inv ev
  obtain ⟨d2, S2, e2, ev2⟩ := R.bind_ok_inv ev1
  clear ev ev1
  obtain ⟨e3, rfl⟩ := R.of_inv ev2
  obtain ⟨r, e4, rfl⟩ := opt_map_inv e3
  exact go re rs e1 fun φ1 H1 v g1 rs1 re1 r1 => go re1 rs1 e2 fun φ2 H2 w g2 rs2 re2 r2 => ⟨φ2, S2, d1, d2, r, rs2, Rep.mono g2 _ _ r1, r2, e4, k φ2 H2 _ (g1.trans g2) rs2 (.bl _)⟩
theorem snd_din (K : X'.K = c.g.K) (hP : X'.prog = c.g.P) (hw : X'.w = c.g.w) (hu : X'.A.units + 200 < cLine) {neg : Bool} (ha : PE X' a (tX c xa)) (hb : PE X' b (tX c xb)) (hm : behindInMarks (if neg then CmpOp.NotIn else CmpOp.In) b = false) :
    PE X' (.Compare a [if neg then CmpOp.NotIn else CmpOp.In] [b] pos) (tX c (.din neg xa xb)) := PE.imp (pe_cmpR (op_din K hP hw hu neg) ha hb hm) rd_din
theorem snd_dinT (K : X'.K = c.g.K) (hP : X'.prog = c.g.P) (hw : X'.w = c.g.w) (hu : X'.A.units + 200 < cLine) {neg : Bool} (ha : PE X' a (tX c xa)) (hb : PE X' b (tX c xb)) (hm : behindInMarks (if neg then CmpOp.NotIn else CmpOp.In) b = false) :
    PT X' (.Compare a [if neg then CmpOp.NotIn else CmpOp.In] [b] pos) (tXt c (.din neg xa xb)) := PT.imp (pt_cmpR (op_din K hP hw hu neg) ha hb hm) fun σ H Q ⟨φ, env, S, d, S', t, re, rs, ev, ht, k⟩ => by
  refine rd_din σ H _ ⟨φ, env, S, d, S', re, rs, ev, fun φ' H' v g rs' r => ?_⟩
  have hb : ∃ b, d = .bl b := by
    simp only [evE] at ev
    obtain ⟨d1, S1, e1, ev1⟩ := R.bind_ok_inv ev
    obtain ⟨d2, S2, e2, ev2⟩ := R.bind_ok_inv ev1
    obtain ⟨e6, _⟩ := R.of_inv ev2
    obtain ⟨b, _, e7⟩ := opt_map_inv e6
    exact ⟨_, e7.symm⟩
  obtain ⟨b, rfl⟩ := hb
  simp only [truD, Option.some.injEq] at ht
  subst ht
  exact ⟨b, r.bl_inv, k φ' H' g rs'⟩
/-- d[k] -/
theorem ix_d (K : X'.K = c.g.K) (hP : X'.prog = c.g.P) (hw : X'.w = c.g.w) (hu : X'.A.units + 200 < cLine) : IxR X' (fun x y H Q => ∃ φ S dx dy d, RS c.g c.cl φ S H ∧ Rep c.g φ H x dx ∧ Rep c.g φ H y dy ∧ dgetD S dx dy = some (some d) ∧ ∀ v, Rep c.g φ H v d → Q v H) := by
  intro value slice pins s σ H x y v u Q I rx ry h hs
  obtain ⟨φ, S, dx, dy, d, rs, px, py, e, q⟩ := h
  obtain ⟨n, kvs, k, rfl, e1, e2, e3⟩ := dget_inv e
  obtain ⟨b, rfl, rfl, kb⟩ := key_is K I e2 py ry
  obtain ⟨a, xs, vs, rfl, h1, h2, h3, h4, h5, h6, h7⟩ := dict_at K hP hw I rs px e1
  cases rx
  rcases at_rel (n := k) h3 h4 with ⟨z1, z2⟩ | ⟨d0, v0, q0, z1, z2, z3, z4⟩
  · rw [z1] at e3; cases e3
  · rw [z1] at e3; cases e3
    exact tail_any h7.typeIs PySem.F.slot_dict_getitem.lookup (wpAny_getItem_heap (room_n hu) kb h7 z2 ⟨v0, H, I.tok _, z3, q v0 z4⟩) hs
theorem snd_dix (K : X'.K = c.g.K) (hP : X'.prog = c.g.P) (hw : X'.w = c.g.w) (hu : X'.A.units + 200 < cLine) (ha : PE X' a (tX c xa)) (hb : PE X' b (tX c xb)) (hs : PlainIx b) : PE X' (.Subscript a b pos) (tX c (.dix xa xb)) :=
  PE.imp (pe_ix (ix_d K hP hw hu) ha hb hs) fun σ H Q ⟨φ, env, S, d, S', re, rs, ev, k⟩ => by
    simp only [evE] at ev
    obtain ⟨d1, S1, e1, ev1⟩ := R.bind_ok_inv ev
    obtain ⟨d2, S2, e2, ev2⟩ := R.bind_ok_inv ev1
    clear ev ev1
    obtain ⟨e3, rfl⟩ := R.of_inv ev2
    simp only [Option.bind_eq_some_iff, id_eq] at e3
    obtain ⟨r, e4, e5⟩ := e3
    have e5 : r = some d := e5
    subst e5
    exact go re rs e1 fun φ1 H1 v g1 rs1 re1 r1 => go re1 rs1 e2 fun φ2 H2 w g2 rs2 re2 r2 => ⟨φ2, S2, d1, d2, d, rs2, Rep.mono g2 _ _ r1, r2, e4, fun v rv => k φ2 H2 v (g1.trans g2) rs2 rv⟩
/-- d[k] = v -/
def rSetD (c : Cfg) : V → V → V → Hp → (Hp → Prop) → Prop := fun o i v H Q => ∃ φ S dx dy dv S', RS c.g c.cl φ S H ∧ Rep c.g φ H o dx ∧ Rep c.g φ H i dy ∧ Rep c.g φ H v dv ∧ dputD S dx dy dv = some S' ∧ ∀ H', Grow φ H φ H' → RS c.g c.cl φ S' H' → Q H'
theorem dput_inv {S S' : List O} {x y v : D} (h : dputD S x y v = some S') : ∃ n kvs k, x = .ref n ∧ S[n]? = some (.dict kvs) ∧ okKey kvs y = some k ∧ kvs.length < 16777216 ∧ S' = S.set n (.dict (putD2 kvs k y v)) := by
  unfold dputD at h
  split at h
  · rename_i n
    split at h
    · rename_i kvs e
      simp only [Option.bind_eq_some_iff] at h
      obtain ⟨k, h1, h2⟩ := h
      split at h2
      · rename_i hz
        cases h2
        exact ⟨n, kvs, k, rfl, e, h1, hz, rfl⟩
      · cases h2
    · cases h
  · cases h
theorem KRel.length : ∀ {kvs : List (D × D)} {xs : List (NestedKey × Addr × V)}, KRel c.g φ H kvs xs → kvs.length = xs.length
  | [], [], _ => rfl
  | [], _ :: _, h => h.elim
  | _ :: _, [], h => h.elim
  | _ :: _, _ :: _, h => by simp [KRel.length h.2]
theorem paired_len {xs : List (NestedKey × Addr × V)} {vs : List (NestedKey × Addr × Value)} (h : Paired Tr xs vs) : xs.length = vs.length := Paired.length h
theorem set_d (K : X'.K = c.g.K) (hP : X'.prog = c.g.P) (hw : X'.w = c.g.w) (hu : X'.A.units + 200 < cLine) : PSet X' (rSetD c) := by
  intro pins s σ H o i v ov iv u Q I ro ri rv h
  obtain ⟨φ, S, dx, dy, dv, S', rs, px, py, pv, e, q⟩ := h
  obtain ⟨n, kvs, k, rfl, e1, e2, hz, rfl⟩ := dput_inv e
  obtain ⟨b, rfl, rfl, kb⟩ := key_is K I e2 py ri
  obtain ⟨a, xs, vs, rfl, h1, h2, h3, h4, h5, h6, h7⟩ := dict_at K hP hw I rs px e1
  cases ro
  obtain ⟨k1, k2, _⟩ := okKey_inv e2
  have hl := KRel.length h3
  have hz2 : xs.length < sizeLine := by rw [sizeLine_eq]; omega
  refine wpAny_setItem_heap (room_n hu) kb h7 (fun h' hm hs => ?_) (by rw [← paired_len h4]; omega)
  obtain ⟨H', I', g', rs'⟩ := dict_put (tk := s.toks + (nestedKind X'.prog X'.w).draws k) hP hw I rs h1 h2 h3 h4 h5 hz2 py k1 k2 pv rv hm hs
  exact ⟨H', I', q H' g' rs'⟩
theorem snd_tdsub (K : X'.K = c.g.K) (hP : X'.prog = c.g.P) (hw : X'.w = c.g.w) (hu : X'.A.units + 200 < cLine) (hs : ∀ v, assign (.Subscript a b pos) X'.env v = (do
      let ov ← holding [v] (eval a X'.env)
      let iv ← holding [v, ov] (eval b X'.env)
      standAt pos
      holding [v, ov, iv] (setItem ov iv v)
      release [v, ov, iv] [])) (ha : PE X' a (tX c xa)) (hb : PE X' b (tX c xb)) : PG X' (.Subscript a b pos) (tTg c (.dsub xa xb)) :=
  PG.imp (pg_sub ha hb (set_d K hP hw hu) hs) fun v σ H Q ⟨φ, env, S, d, env', S', re, rs, r, ev, k⟩ => by
    simp only [evT] at ev
    obtain ⟨d1, S1, e1, ev1⟩ := R.bind_ok_inv ev
    obtain ⟨d2, S2, e2, ev2⟩ := R.bind_ok_inv ev1
    clear ev ev1
    split at ev2
    · rename_i S3 hset
      cases ev2
      exact go re rs e1 fun φ1 H1 y g1 rs1 re1 r1 => go re1 rs1 e2 fun φ2 H2 z g2 rs2 re2 r2 => ⟨φ2, S2, d1, d2, d, _, rs2, Rep.mono g2 _ _ r1, r2, Rep.mono (g1.trans g2) _ _ r, hset, fun H' g3 rs3 => k φ2 H' σ ((g1.trans g2).trans g3) rs3 (re2.mono g3)⟩
    · cases ev2
/-- {} -/
theorem snd_dnew (hP : X'.prog = c.g.P) (hw : X'.w = c.g.w) : PE X' (.Dict [] [] pos) (tX c .dnew) := by
  refine ⟨fun pins s σ H Q I ⟨φ, env, S, d, S', re, rs, ev, k⟩ => wpAny_Dict_empty ?_⟩
  simp only [evE] at ev
  cases ev
  have hn : H s.heap.objs.size = none := I.hok.fresh (Nat.le_refl _)
  have hb : (s.heap.objs.size == sysModules) = false := by
    have := I.big
    exact beq_false_of_ne (Nat.ne_of_gt this)
  have nw : ObjOk X'.prog X'.w (upd H s.heap.objs.size (.ext (rawD X'.prog X'.w s.heap.objs.size []))) (s.heap.push { cls := .type "dict", data := .dict #[] }) s.heap.objs.size (.ext (rawD X'.prog X'.w s.heap.objs.size [])) := by
    have ho := Heap.get?_push_size s.heap (o := { cls := .type "dict", data := .dict #[] }) rfl
    refine ⟨⟨hb, Nat.zero_le _, [], .nil, _, #[], _, ho, ⟨rfl, rfl, rfl⟩, rfl, rfl, List.nodup_nil⟩, ⟨_, ho⟩, fun g1 g2 z kp => ?_⟩
    obtain ⟨z1, z2, vs', z3, o', es', ep', z4, z5⟩ := z
    exact ⟨z1, z2, vs', z3, o', es', ep', kp o' z4, z5⟩
  obtain ⟨g2, rs2⟩ := rs.push (o := .dict []) (u := .ext (rawD X'.prog X'.w s.heap.objs.size [])) hn ⟨[], by rw [hP, hw], trivial⟩
  refine ⟨.ref s.heap.objs.size, _, I.laid (t' := s.toks) (fun _ _ q => Heap.get?_push_of_some _ q) (Nat.le_refl _) nw, rfl, k _ _ _ g2 rs2 (.ref ?_)⟩
  rw [← rs.len, List.getElem?_append_right (Nat.le_refl _)]
  simp
/-! ### a method of a built-in type, the type by what is known of the value -/
def TyE (X' : Cx) (T : String) (x : V) (H : Hp) : Prop := ∀ (pins : List (Addr × Obj)) (σ : L2.St) (s : Shared) (v : Value), Inv X' pins σ H s → RelV x v → s.TypeIs v T ∧ ∀ a, v = .ref a → ∃ ob, s.heap.get? a = some ob ∧ ob.dict = none
def tBMg (X' : Cx) (T : String) (r : V → List V → Hp → VK → Prop) (to : TE) (t : TA) : TE := fun σ H Q => to σ H fun x H1 => TyE X' T x H1 ∧ t σ H1 fun xs H2 => r x xs H2 Q
theorem pe_bmg {T id : String} {name : Str} {r : V → List V → Hp → VK → Prop} {to : TE} {t : TA} (pa : PlainAttrs T) (slot : Slot T name id) (hty : typeOf (.builtin id) = pure (.type "method_descriptor")) (hm : MtR X' id r) (ho : PE X' o to) (ha : PA X' (e :: es) t) (hbase : attributeBase o name X'.env (eval o X'.env) = eval o X'.env)
    (hfew : ((backTo pos (starEach (e :: es) X'.env)).all (fun x => !x.1) && (backToKw pos (keywordEach [] X'.env)).all (fun x => x.1.isSome) && decide ((e :: es).length + ([] : List Keyword).length + (if ([] : List Keyword).isEmpty then 0 else 1) < 30)) = true)
    (hline : (apos.endLine == pos.line) = true) (hs : starEach (e :: es) X'.env = (false, eval e X'.env) :: starEach es X'.env) (hpl : (backTo pos (starEach es X'.env)).any (·.1) = false) : PE X' (.Call (.Attribute o name apos) (e :: es) [] pos) (tBMg X' T r to t) := by
  refine ⟨fun pins s σ H Q I h => wpAny_Call_method_late hbase hfew hline rfl (thn (ho.run pins s σ H _ I h) fun v s1 q1 => ?_)⟩
  obtain ⟨x, H1, I1, r1, ty, q1⟩ := q1
  obtain ⟨z1, z2⟩ := ty pins σ s1 v I1 r1
  refine ⟨T, id, pa, slot, hty, z1, z2, ?_⟩
  have hA := ha.run pos pins s1 σ H1 _ I1 q1
  rw [hs] at hA ⊢
  refine Calls.callWith_builtin (show (false || (backTo pos (starEach es X'.env)).any (·.1)) = false by rw [hpl]; rfl) (Calls.evalArgs_plain (thn hA fun us s2 q2 => ?_))
  obtain ⟨vs, H2, I2, r2, q2⟩ := q2
  exact hm pins s2 σ H2 x vs v us Q I2 r1 r2 q2
theorem isDx_inv {S : List O} {x : D} (h : ¬ isDx S x = false) : ∃ n kvs, x = .ref n ∧ S[n]? = some (.dict kvs) := by
  unfold isDx at h
  split at h
  · split at h
    · rename_i n kvs e; exact ⟨_, _, rfl, e⟩
    · exact absurd rfl h
  · exact absurd rfl h
theorem ty_dict (K : X'.K = c.g.K) (hP : X'.prog = c.g.P) (hw : X'.w = c.g.w) {x : D} {v : V} (rs : RS c.g c.cl φ S H) (r : Rep c.g φ H v x) (h : ¬ isDx S x = false) : TyE X' "dict" v H := fun pins σ s u I ru => by
  obtain ⟨n, kvs, rfl, e⟩ := isDx_inv h
  obtain ⟨q, xs, vs, rfl, h1, h2, h3, h4, h5, h6, h7⟩ := dict_at K hP hw I rs r e
  cases ru
  refine ⟨h7.typeIs, fun a e => ?_⟩
  cases e
  obtain ⟨o, es, ep, ho, hx, _⟩ := h7
  exact ⟨o, ho, hx.2.1⟩
def rSetdef (c : Cfg) : V → List V → Hp → VK → Prop := fun x vs H Q => ∃ φ S dx dy dz y z d S', RS c.g c.cl φ S H ∧ vs = [y, z] ∧ Rep c.g φ H x dx ∧ Rep c.g φ H y dy ∧ Rep c.g φ H z dz ∧
  (match dgetD S dx dy with
    | some (some d) => (.ok d S : R D)
    | some none => match dputD S dx dy dz with
      | some S' => .ok dz S'
      | none => .bad
    | none => .bad) = .ok d S' ∧ ∀ H' v, Grow φ H φ H' → RS c.g c.cl φ S' H' → Rep c.g φ H' v d → Q v H'
theorem mt_setdef (K : X'.K = c.g.K) (hP : X'.prog = c.g.P) (hw : X'.w = c.g.w) (hu : X'.A.units + 200 < cLine) : MtR X' "dict.setdefault" (rSetdef c) := by
  intro pins s σ H x vs v us Q I rx rv h
  obtain ⟨φ, S, dx, dy, dz, y, z, d, S', rs, rfl, px, py, pz, e, q⟩ := h
  cases rv with
  | cons ry rv =>
    obtain ⟨w, rfl, rz⟩ := vals1 rv
    split at e
    · rename_i d0 hd
      cases e
      obtain ⟨n, kvs, k, rfl, e1, e2, e3⟩ := dget_inv hd
      obtain ⟨b, rfl, rfl, kb⟩ := key_is K I e2 py ry
      obtain ⟨a, xs, vs, rfl, h1, h2, h3, h4, h5, h6, h7⟩ := dict_at K hP hw I rs px e1
      cases rx
      refine call_setdefault_heap (room_n hu) kb h5 h7 (fun p hp => ?_) (fun hn => ?_) (by rw [← paired_len h4]; exact h6)
      · rcases at_rel (n := k) h3 h4 with ⟨z1, z2⟩ | ⟨d1, v0, q0, z1, z2, z3, z4⟩
        · rw [z2] at hp; cases hp
        · rw [z2] at hp; cases hp
          rw [z1] at e3; cases e3
          exact ⟨v0, H, I.tok _, z3, q H v0 (Grow.refl _ _) rs z4⟩
      · rcases at_rel (n := k) h3 h4 with ⟨z1, z2⟩ | ⟨d1, v0, q0, z1, z2, z3, z4⟩
        · rw [z1] at e3; cases e3
        · rw [z2] at hn; cases hn
    · rename_i hd
      split at e
      · rename_i S2 hp
        cases e
        obtain ⟨n, kvs, k, e0, e1, e2, e3⟩ := dget_inv hd
        obtain ⟨n', kvs', k', e4, e5, e6, hz, rfl⟩ := dput_inv hp
        subst e0
        cases e4
        rw [e1] at e5; cases e5
        rw [e2] at e6; cases e6
        obtain ⟨b, rfl, rfl, kb⟩ := key_is K I e2 py ry
        obtain ⟨a, xs, vs, rfl, h1, h2, h3, h4, h5, h6, h7⟩ := dict_at K hP hw I rs px e1
        cases rx
        obtain ⟨k1, k2, _⟩ := okKey_inv e2
        have hl := KRel.length h3
        have hz2 : xs.length < sizeLine := by rw [sizeLine_eq]; omega
        refine call_setdefault_heap (room_n hu) kb h5 h7 (fun p hp => ?_) (fun hn h' hm hs => ?_) (by rw [← paired_len h4]; exact h6)
        · rcases at_rel (n := k) h3 h4 with ⟨z1, z2⟩ | ⟨d1, v0, q0, z1, z2, z3, z4⟩
          · rw [z2] at hp; cases hp
          · rw [z1] at e3; cases e3
        · obtain ⟨H', I', g', rs'⟩ := dict_put (tk := s.toks + (nestedKind X'.prog X'.w).draws k) hP hw I rs h1 h2 h3 h4 h5 hz2 py k1 k2 pz rz hm hs
          exact ⟨z, H', I', rz, q H' z g' rs' (Rep.mono g' _ _ pz)⟩
      · cases e
    · cases e
theorem snd_dsetd {f : Expr} {xc : X} (K : X'.K = c.g.K) (hP : X'.prog = c.g.P) (hw : X'.w = c.g.w) (hu : X'.A.units + 200 < cLine) (ho : PE X' o (tX c xo)) (ha : PA X' [e, f] (tXs c [xb, xc])) (hbase : attributeBase o "setdefault" X'.env (eval o X'.env) = eval o X'.env)
    (hfew : ((backTo pos (starEach [e, f] X'.env)).all (fun x => !x.1) && (backToKw pos (keywordEach [] X'.env)).all (fun x => x.1.isSome) && decide ([e, f].length + ([] : List Keyword).length + (if ([] : List Keyword).isEmpty then 0 else 1) < 30)) = true)
    (hline : (apos.endLine == pos.line) = true) (hs : starEach [e, f] X'.env = (false, eval e X'.env) :: starEach [f] X'.env) (hpl : (backTo pos (starEach [f] X'.env)).any (·.1) = false) : PE X' (.Call (.Attribute o "setdefault" apos) [e, f] [] pos) (tX c (.dsetd xo xb xc)) :=
  PE.imp (pe_bmg PySem.F.plainAttrs_dict PySem.F.slot_dict_setdefault PySem.F.type_dict_setdefault (mt_setdef K hP hw hu) ho ha hbase hfew hline hs hpl) fun σ H Q ⟨φ, env, S, d, S', re, rs, ev, k⟩ => by
    simp only [evE] at ev
    obtain ⟨d1, S1, e1, ev1⟩ := R.bind_ok_inv ev
    clear ev
    split at ev1
    · cases ev1
    rename_i hD
    obtain ⟨d2, S2, e2, ev2⟩ := R.bind_ok_inv ev1
    obtain ⟨d3, S3, e3, ev3⟩ := R.bind_ok_inv ev2
    clear ev1 ev2
    refine go re rs e1 fun φ1 H1 v g1 rs1 re1 r1 => ⟨ty_dict K hP hw rs1 r1 hD, gos (ds := [d2, d3]) (S1 := S3) re1 rs1 (by simp [evEs, e2, e3]) fun φ2 H2 vs g2 rs2 re2 r2 => ?_⟩
    obtain ⟨y, z, rfl, ry, rz⟩ := two_inv r2
    exact ⟨φ2, S3, d1, d2, d3, y, z, d, S', rs2, rfl, Rep.mono g2 _ _ r1, ry, rz, ev3, fun H' w g3 rs3 rw' => k φ2 H' w ((g1.trans g2).trans g3) rs3 rw'⟩
/-- list(d) -/
theorem keys_rep : ∀ {kvs : List (D × D)} {xs : List (NestedKey × Addr × V)}, KRel c.g φ H kvs xs → RepL c.g φ H (xs.map fun x => V.ref x.2.1) (kvs.map (·.1))
  | [], [], _ => .nil
  | [], _ :: _, h => h.elim
  | _ :: _, [], h => h.elim
  | _ :: _, _ :: _, h => .cons h.1.1 (keys_rep h.2)
def rKeys (c : Cfg) : List V → Hp → VK → Prop := fun us H Q => ∃ φ S n kvs v, RS c.g c.cl φ S H ∧ us = [v] ∧ Rep c.g φ H v (.ref n) ∧ S[n]? = some (.dict kvs) ∧ ∀ p ys, H p = none → RepL c.g φ H ys (kvs.map (·.1)) → Q (.ref p) (upd H p (.lst ys))
theorem paired_keys : ∀ {xs : List (NestedKey × Addr × V)} {vs : List (NestedKey × Addr × Value)}, Paired Tr xs vs → vs.map (fun x => Value.ref x.2.1) = xs.map fun x => Value.ref x.2.1
  | [], [], _ => rfl
  | [], _ :: _, k => by cases k
  | _ :: _, [], k => by cases k
  | _ :: _, _ :: _, k => by
    cases k with
    | cons k1 k2 => simp [paired_keys k2, k1.2.1]
theorem refs_vals : ∀ (xs : List (NestedKey × Addr × V)), Vals (xs.map fun x => V.ref x.2.1) (xs.map fun x => Value.ref x.2.1)
  | [] => .nil
  | _ :: xs => .cons rfl (refs_vals xs)
theorem cr_keys (K : X'.K = c.g.K) (hP : X'.prog = c.g.P) (hw : X'.w = c.g.w) (hc : X'.calm = true) : CallR X' (.type "list") (rKeys c) := by
  intro pins s σ H ws us Q I r h
  obtain ⟨φ, S, n, kvs, v, rs, rfl, rv, e, q⟩ := h
  obtain ⟨u, rfl, ru⟩ := vals1 r
  obtain ⟨a, xs, vs, rfl, h1, h2, h3, h4, h5, h6, h7⟩ := dict_at K hP hw I rs rv e
  cases ru
  obtain ⟨es, ep, hr, hs, he⟩ := h7.raw
  have hlen := paired_len h4
  refine PySem.W.kdl_call (PySem.KdlSrc.rawDict h5) (I.ok.hd hc) hr (by omega) fun h' tk acc cc kp eo it => ?_
  have ea : acc.toList = xs.map fun x => Value.ref x.2.1 := by
    rw [← paired_keys h4]
    refine List.ext_getElem? fun j => ?_
    have sz : acc.size = es.size := it.1
    by_cases hj : j < es.size
    · obtain ⟨y, k1, k2, _⟩ := he j hj
      have hj2 : j < acc.toList.length := by rw [Array.length_toList, sz]; exact hj
      obtain ⟨hi, k3⟩ := it.2 j acc.toList[j] (by rw [← Array.getElem?_toList, List.getElem?_eq_getElem hj2])
      rw [List.getElem?_eq_getElem hj2, List.getElem?_map, k1, k3, k2]
      rfl
    · rw [List.getElem?_eq_none (by rw [Array.length_toList, sz]; omega), List.getElem?_eq_none (by rw [List.length_map]; omega)]
  have hn : H s.heap.objs.size = none := I.hok.fresh (Nat.le_refl _)
  refine ⟨.ref s.heap.objs.size, upd H s.heap.objs.size (.lst (xs.map fun x => V.ref x.2.1)), I.laid (t' := tk) kp (Nat.le_refl _) ⟨by rw [List.length_map]; exact h6, acc.toList, cc, ?_, by rw [Array.toArray_toList]; exact eo⟩, rfl, q _ _ hn (keys_rep h3)⟩
  rw [ea]
  exact refs_vals xs
theorem snd_keys (K : X'.K = c.g.K) (hP : X'.prog = c.g.P) (hw : X'.w = c.g.w) (hc : X'.calm = true) (B : Blt X' "list") (ha : PE X' a (tX c xa)) (hs : starEach [a] X'.env = [(false, eval a X'.env)]) : PE X' (.Call (.Name "list" p) [a] [] pos) (tCx c (.keys xa)) :=
  PE.imp (pe_callTy (cr_keys (X' := X') (c := c) K hP hw hc) B.gl B.no (by decide +kernel) (snd_cons ha snd_nil hs) (by decide) (by decide) hs rfl) fun σ H Q ⟨φ, env, S, d, S', re, rs, ev, k⟩ => by
    simp only [evC] at ev
    obtain ⟨d1, S1, e1, ev1⟩ := R.bind_ok_inv ev
    clear ev
    split at ev1
    · rename_i n
      split at ev1
      · rename_i kvs hn
        split at ev1
        · cases ev1
          refine gos (ds := [.ref n]) (S1 := S') re rs (by simp [evEs, e1]) fun φ1 H1 vs g1 rs1 re1 r1 => ?_
          obtain ⟨v, rfl, rv⟩ := one_inv r1
          refine ⟨φ1, S', n, kvs, v, rs1, rfl, rv, hn, fun w ys hw' ry => ?_⟩
          have g2 : Grow φ1 H1 φ1 (upd H1 w (.lst ys)) := Grow.new hw'
          exact k φ1 _ w ys (g1.trans g2) (rs1.new hw') (RepL.mono g2 _ _ ry) (fresh_before g1 rs1 hw') upd_same (rs1.free hw')
        · cases ev1
      · cases ev1
    · cases ev1
end
end Rx

set_option Elab.async false
set_option autoImplicit false
set_option linter.all false
set_option maxRecDepth 100000
set_option maxHeartbeats 1000000
/-! RxC: t[::-1] of a tuple. -/
namespace Rx
open PySem PySem.Spec PyProof.Rows L2
theorem range_all {α : Type} : ∀ xs : List α, (List.range xs.length).filterMap (fun k => xs[k]?) = xs
  | [] => rfl
  | x :: xs => by
    rw [List.length_cons, List.range_succ_eq_map, List.filterMap_cons]
    simp only [List.getElem?_cons_zero, List.filterMap_map]
    have : ((fun k => (x :: xs)[k]?) ∘ Nat.succ) = fun k => xs[k]? := by funext k; simp
    rw [this, range_all xs]
theorem fm_congr {α β : Type} {f g : α → Option β} : ∀ {l : List α}, (∀ k ∈ l, f k = g k) → l.filterMap f = l.filterMap g
  | [], _ => rfl
  | k :: l, h => by
    rw [List.filterMap_cons, List.filterMap_cons, h k List.mem_cons_self, fm_congr fun j hj => h j (List.mem_cons_of_mem _ hj)]
theorem rev_pick (xs : List Value) : ((List.range xs.length).filterMap fun (k : Nat) => xs.toArray[(((xs.length : Int) - 1) + (k : Int) * (-1)).toNat]?) = xs.reverse := by
  rw [← range_all xs.reverse, List.length_reverse]
  refine fm_congr fun k hk => ?_
  have hk := List.mem_range.mp hk
  rw [List.getElem?_reverse hk]
  have : (((xs.length : Int) - 1) + (k : Int) * (-1)).toNat = xs.length - 1 - k := by omega
  rw [this]
  simp
theorem adj_rev (n : Nat) : Builtin.Slice.sliceAdjust none none (-1) (n : Int) = ((n : Int) - 1, -1) := by
  unfold Builtin.Slice.sliceAdjust
  simp
theorem places_rev (n : Nat) : Builtin.Slice.slicePlaces ((n : Int) - 1) (-1) (-1) = n := by
  unfold Builtin.Slice.slicePlaces
  simp
  omega
section
variable {prog : Program} {w : World} {A : Around} {E : Value → Shared → Prop} {s : Shared}
theorem applied_rev {sl : Addr} {tk : Tok} {n : Nat} {Q : Int × Int × Nat → Shared → Prop} (hsl : s.heap.IsSliceOf sl .none .none (.int (-1) tk)) (h : Q ((n : Int) - 1, -1, n) s) : wpAny (model prog w) A (Builtin.Slice.sliceApplied (.ref sl) (pure (n : Int))) Q E s := by
  obtain ⟨os, g1, g2, g3⟩ := id hsl
  unfold Builtin.Slice.sliceApplied Builtin.Slice.sliceFields
  refine wpAny_bind (wpAny_bind (wpAny_field g1 g3 (x := .none) rfl (wpAny_bind (wpAny_field g1 g3 (x := .none) rfl (wpAny_bind (wpAny_field g1 g3 (x := .int (-1) tk) rfl (wpAny_pure ?_)))))))
  refine wpAny_bind (HT.slicePart_ (.int (-1) tk) ?_)
  show wpAny _ A (if ((-1 : Int) == 0) = true then _ else _) _ E s
  rw [if_neg (show ¬ ((-1 : Int) == 0) = true by decide)]
  refine wpAny_bind (HT.slicePart_ .none (wpAny_bind (HT.slicePart_ .none (wpAny_bind (wpAny_pure ?_)))))
  show wpAny _ A (match Builtin.Slice.sliceAdjust none none (-1) (n : Int) with | (lo, hi) => pure (lo, (-1 : Int), Builtin.Slice.slicePlaces lo hi (-1))) _ E s
  rw [adj_rev n]
  show wpAny _ A (pure ((n : Int) - 1, (-1 : Int), Builtin.Slice.slicePlaces ((n : Int) - 1) (-1) (-1))) _ E s
  rw [places_rev]
  exact wpAny_pure h
theorem getItem_tuple_rev {t sl : Addr} {its : List Value} {tk : Tok} {Q : Value → Shared → Prop} (htp : IsTup s.heap t its.toArray) (hsl : s.heap.IsSliceOf sl .none .none (.int (-1) tk)) (hz : its.length ≤ sizeLine)
    (h : Q (.ref s.heap.objs.size) { s with heap := s.heap.push { cls := .type "tuple", data := .seq its.reverse.toArray } }) : wpAny (model prog w) A (getItem (.ref t) (.ref sl)) Q E s := by
  obtain ⟨os, g1, g2, g3⟩ := id hsl
  have tS : s.TypeIs (.ref sl) "slice" := ⟨os, g1, g2⟩
  have fits : sizeOk (.seq its.reverse.toArray) := by
    show its.reverse.toArray.size ≤ sizeLine
    simpa using hz
  unfold getItem
  try with_reducible refine wpAny_holding ?_
  first | refine wpAny_bind (wpAny_pure ?_) | skip
  refine wpAny_bind (wpAny_sequenceKey (T := "tuple") htp.typeIs (by decide) ?_)
  refine wpAny_bind (wpAny_callSpecial?_slot (name := Str.ofString "__getitem__") (T := "tuple") htp.typeIs PyProof.Rows.slot_tuple_getitem (wpAny_call_entry PyProof.Rows.slot_tuple_getitem htp.typeIs PySem.F.entry_tuple_getitem ?_ (PySem.F.args_tuple_getitem_2 _ _)))
  show wpAny _ _ (Builtin.Tuple.tupleItemsOf (.ref t) >>= _) _ E s
  refine wpAny_bind (PyProof.Rows.tupleItemsOf_ htp (wpAny_bind (wpAny_typeOf tS ?_)))
  rw [if_pos (by decide), List.size_toArray]
  refine wpAny_bind (applied_rev hsl ?_)
  show wpAny _ _ (if ((((its.length : Int) - 1) == 0) && (-1 : Int) == 1 && its.length == its.toArray.size) = true then _ else _) _ E s
  rw [if_neg (by simp)]
  rw [rev_pick]
  first
    | exact wpAny_bind (m := Builtin.Tuple.tupleExact _) (wpAny_newObj_type (wpAny_pure ⟨_, rfl, wpAny_pure h⟩) fits)
    | exact wpAny_bind (m := Builtin.Tuple.tupleExact _) (wpAny_newObj_type (wpAny_bind (wpAny_pure (wpAny_pure ⟨_, rfl, wpAny_pure h⟩))) fits)
    | exact wpAny_bind (wpAny_bind (m := Builtin.Tuple.tupleExact _) (wpAny_newObj_type (wpAny_pure (wpAny_pure ⟨_, rfl, wpAny_pure h⟩)) fits))
    | exact wpAny_bind (wpAny_bind (m := Builtin.Tuple.tupleExact _) (wpAny_newObj_type (wpAny_pure ⟨_, rfl, wpAny_pure h⟩) fits))
end
/-! ### xs[::-1] of a tuple -/
section
variable {X : Cx}
def tRevT (K : PySem.W.Frag) (te : TE) : TE := fun σ H Q => te σ H fun x H1 => ∃ a xs, x = .ref a ∧ SqT K H1 a xs ∧ ∀ p, H1 p = none → Q (.ref p) (upd H1 p (.tup xs.reverse))
theorem pe_revT {e : Expr} {te : TE} {k : Nat} {p1 p2 p3 pos : Pos} (he : PE X e te) : PE X (.Subscript e (.Slice none none (some (.UnaryOp .USub (.Constant (.int 1) k p1) p2)) p3) pos) (tRevT X.K te) := by
  constructor
  intro pins s0 σ H Q I h
  refine Subscript_ (thn (he.run pins s0 σ H _ I h) fun v s1 hv => ?_)
  obtain ⟨x, H1, I1, r1, a, xs, rfl, hx, q⟩ := hv
  cases r1
  have hst : PO X (some (.UnaryOp .USub (.Constant (.int 1) k p1) p2)) (tPart (tUn (rU fun i => .int (-i)) (tC (.int 1)))) := po_some (pe_un un_neg pe_int)
  refine wpAny_Slice (thn (po_none.run pins s1 σ H1 (fun o H2 => o = none ∧ H2 = H1) I1 ⟨rfl, rfl⟩) fun vl s2 hl => ?_)
  obtain ⟨l, H2, I2, pl, rfl, rfl⟩ := hl
  refine thn (po_none.run pins s2 σ H2 (fun o H3 => o = none ∧ H3 = H2) I2 ⟨rfl, rfl⟩) fun vu s3 hu => ?_
  obtain ⟨u, H3, I3, pu, rfl, rfl⟩ := hu
  refine thn (hst.run pins s3 σ H3 (fun o H4 => o = some (-1) ∧ H4 = H3) I3 ⟨1, rfl, -1, rfl, rfl, rfl⟩) fun vs s4 hs => ?_
  obtain ⟨o, H4, I4, ps, rfl, rfl⟩ := hs
  have nl : vl = .none := by cases pl; rfl
  have nu : vu = .none := by cases pu; rfl
  have ns : ∃ tk, vs = .int (-1) tk := by cases ps; exact ⟨_, rfl⟩
  obtain ⟨tk, rfl⟩ := ns
  subst nl nu
  have I5 : Inv X pins σ H4 { s4 with heap := s4.heap.push { cls := .type "slice", data := .fields #[.none, .none, .int (-1) tk] } } := I4.kept (t' := s4.toks) fun b ob q => Heap.get?_push_of_some _ q
  obtain ⟨its, r, ht, hz⟩ := I5.tuple hx
  show wpAny (model X.prog X.w) X.A (subscriptTail e (.Slice none none (some (.UnaryOp .USub (.Constant (.int 1) k p1) p2)) p3) (.ref a) (.ref s4.heap.objs.size)) (EP X pins σ Q) X.xe { s4 with heap := s4.heap.push { cls := .type "slice", data := .fields #[.none, .none, .int (-1) tk] } }
  refine tail_any (ops := [.ref a, .ref s4.heap.objs.size]) ht.typeIs (PyProof.Rows.slot_tuple_getitem.lookup) ?_ (by with_unfolding_all rfl)
  refine getItem_tuple_rev ht (Heap.IsSliceOf.new _ .none .none (.int (-1) tk)) (by rw [← r.length]; exact hz) ?_
  refine ⟨.ref _, _, I5.laid (t' := s4.toks) (o := .tup xs.reverse) (fun b ob q => Heap.get?_push_of_some _ q) (Nat.le_refl _) ?_, rfl, q _ (I5.hok.fresh (Nat.le_refl _))⟩
  exact ⟨by rw [List.length_reverse]; exact hz, _, r.reverse, IsTup.new _ _⟩
end
section
variable {c : Cfg} {X' : Cx} {a : Expr} {xa : X} {pos : Pos}
theorem snd_rev (K : X'.K = c.g.K) {n1 : Nat} {p1 p2 p3 : Pos} (ha : PE X' a (tX c xa)) : PE X' (.Subscript a (.Slice none none (some (.UnaryOp .USub (.Constant (.int 1) n1 p1) p2)) p3) pos) (tX c (.rev xa)) :=
  PE.imp (pe_revT ha) fun σ H Q ⟨φ, env, S, d, S', re, rs, ev, k⟩ => by
    simp only [evE] at ev
    obtain ⟨d1, S1, e1, ev⟩ := R.bind_ok_inv ev
    obtain ⟨e2, rfl⟩ := R.of_inv ev
    unfold revD at e2
    split at e2
    · cases e2
      refine go re rs e1 fun φ1 H1 v g1 rs1 re1 r1 => ?_
      obtain ⟨q, ys, rfl, hl, k1⟩ := tup_inv r1
      refine ⟨q, ys, rfl, by rw [K]; exact hl, fun w hw => ?_⟩
      exact newtup rs1 k1.reverse (out_of g1 k) hw
    · cases e2
end
end Rx

set_option Elab.async false
set_option autoImplicit false
set_option linter.all false
set_option maxRecDepth 100000
set_option maxHeartbeats 3200000
/-! RxD: sorted(set(t)), t a list or a tuple of tuples of ints. -/
namespace Rx
open PySem PySem.Spec PyProof.Rows L2
/-- a set just made -/
abbrev setObj (w : World) : Obj := { cls := .type "set", dict := none, data := .set #[] 0 (.fresh 0 0 (!w.params.followText "set-order")) }
theorem past_none {h : Heap} {b : Addr} (hb : h.objs.size ≤ b) : h.get? b = none := by
  rcases q : h.get? b with _ | o
  · rfl
  · exact absurd (Heap.lt_size q) (Nat.not_lt.mpr hb)
section
variable {P : Program} {w : World} {A : Around} {E : Value → Shared → Prop} {s : Shared}
/-- what stands behind set(t) -/
structure Setted (P : Program) (w : World) (ks : List (Addr × List Int)) (s s2 : Shared) : Prop where
  ex : ∃ h' tk L es ep t, s2 = { s with heap := h', toks := tk } ∧ SetTR P w h' s.heap.objs.size L es ep t ∧ Got ks ks.length L ∧ ∀ b o, s.heap.get? b = some o → h'.get? b = some o
theorem call_set_tupT {l : Addr} {items : Array Value} (ks : List (Addr × List Int)) {Q : Value → Shared → Prop} (nh : A.handled = none) (lt : s.heap.IsTuple l items) (same : items.toList = ks.map fun p => Value.ref p.1)
    (all : ∀ p ∈ ks, IsT P w s.heap p.2 p.1) (few : ks.length < 64) (un : A.units + 3 < cLine)
    (go : ∀ s2, Setted P w ks s s2 → Q (.ref s.heap.objs.size) s2) :
    wpAny (model P w) A (call (.type "set") [.ref l]) Q E s := by
  have cnt : items.size = ks.length := by simpa using congrArg List.length same
  have at0 : (s.heap.push (setObj w)).get? s.heap.objs.size = some (setObj w) := Heap.get?_push_size _ rfl
  have ty0 : Shared.TypeIs { s with heap := s.heap.push (setObj w) } (.ref s.heap.objs.size) "set" := ⟨_, at0, rfl⟩
  have below : l < s.heap.objs.size := by obtain ⟨o, ho, _⟩ := lt; exact Heap.lt_size ho
  obtain ⟨c, tl, hmro⟩ := F.called_set.mro
  have f1 := F.called_set.made
  have f2 := F.called_set.sub
  have f3 := F.called_set.notType
  have f4 := F.called_set.canCreate
  have f5 := F.typeCall_set_1 (.ref l)
  have f6 := F.called_set.init.lookup
  have f7 := F.called_set.init.bind (.ref s.heap.objs.size)
  refine wpAny_call (codeAny_of_tree (show wpAny _ _ (callAny (.type "set") _) _ _ _ from ?_))
  refine wpAny_pure ⟨Code.quiet_builtin _ (by decide +kernel), codeAny_builtin F.entry_type_call (?_ : _)⟩
  rw [Around.under_plain (weight_type_call_type "set" [.ref l] []) rfl]
  iterate (any_goals (first | assumption | wp_step))
  refine codeAny_mono (code_set_led1 (.ref l) (E := E) (Q₁ := fun v s2 => v = .ref s.heap.objs.size ∧ s2 = { s with heap := s.heap.push (setObj w) }) ⟨rfl, rfl⟩) fun r s1 hr => ?_
  match r, hr with
  | .error e, hr => exact hr
  | .ok .next, hr => exact hr.elim
  | .ok .brk, hr => exact hr.elim
  | .ok .cont, hr => exact hr.elim
  | .ok (.ret v0), hr =>
  obtain ⟨rfl, rfl⟩ := hr
  iterate (any_goals (first | assumption | wp_step))
  refine codeAny_mono (codeAny_call_builtin (R := wants (fun r s2 => r = .none ∧ Setted P w ks s s2) E) F.called_set.init.plain F.entry_set_init (check_set_init_1 ty0 ?_)) fun r s2 hr => ?_
  · have lt1 : (s.heap.push (setObj w)).IsTuple l items := lt.push _
    obtain ⟨⟨c0, d0, x0, sl0⟩, at1, e1, n1, e2⟩ := lt1
    obtain rfl : c0 = _ := e1
    obtain rfl : x0 = _ := e2
    have no1 := F.sub_tuple_set
    have no2 := F.sub_tuple_frozenset
    have no3 : (Value.type "tuple" == Value.type "dict") = false := by decide
    unfold Builtin.«set.__init__» noKeywords Builtin.Frozenset.updateFrom
    generalize pv : pyIter = pi
    wp_walk
    subst pv
    refine wpAny_pyIter_tuple (lt.push _) (wpAny_bind (wpAny_runValue ?_))
    have sz1 : (s.heap.push (setObj w)).objs.size = s.heap.objs.size + 1 := Heap.size_push ..
    have ne1 : l ≠ (s.heap.push (setObj w)).objs.size := fun z => absurd (z.trans sz1) (Nat.ne_of_lt (Nat.lt_succ_of_lt below))
    have nf : s.heap.objs.size ∉ [(s.heap.push (setObj w)).objs.size, l] := by
      intro z
      rcases List.mem_cons.mp z with z | z
      · exact absurd (z.trans sz1) (Nat.ne_of_lt (Nat.lt_succ_self _))
      · exact absurd (List.mem_singleton.mp z).symm (Nat.ne_of_lt below)
    have at2 : ((s.heap.push (setObj w)).push { cls := .type "tuple_iterator", data := .fields #[.ref l, .int 0 0] }).get? s.heap.objs.size = some (setObj w) := Heap.get?_push_of_some _ at0
    have put : ∀ (i : Nat) (v : Value), items[i]? = some v → ∃ p, ks[i]? = some p ∧ v = .ref p.1 := fun i v hv => by
      rw [← Array.getElem?_toList, same, List.getElem?_map, Option.map_eq_some_iff] at hv
      obtain ⟨p, e, rfl⟩ := hv
      exact ⟨p, e, rfl⟩
    refine set_update_tups (Walks.tuple (by simp [nh]) _ l ne1 items).toS s.heap.objs.size nf ks cnt few put s.heap all (past_none (Nat.le_refl _)) (fun b hb => past_none (by
      rw [(List.mem_singleton.mp hb).trans sz1]
      exact Nat.le_succ _)) un items.size 0 _ (by omega) (Nat.zero_le _) ⟨⟨_, Heap.get?_push_size _ rfl, rfl, rfl⟩, (lt.push _).push _⟩ (fun b o e => Heap.get?_push_of_some _ (Heap.get?_push_of_some _ e)) ⟨[], #[], 0, _, setTR_fresh at2, Got.zero ks⟩ fun s2 L es ep t mv R g keep => ?_
    have q1 := mv.gens
    have q2 := mv.drawn
    have q3 := mv.os
    obtain ⟨h2, _, _, tk, _⟩ := s2
    obtain rfl : _ = s.gens := q1
    obtain rfl : _ = s.drawn := q2
    obtain rfl : _ = s.os := q3
    refine wpAny_pure (show wpAny _ _ (ret Value.none) _ _ _ from wpAny_pure ⟨rfl, ⟨h2, tk, L, es, ep, t, rfl, R, ?_, keep⟩⟩)
    rw [← cnt]
    exact g
  · match r, hr with
    | .error e, hr => exact hr
    | .ok .next, hr => exact hr.elim
    | .ok .brk, hr => exact hr.elim
    | .ok .cont, hr => exact hr.elim
    | .ok (.ret v0), hr =>
    obtain ⟨rfl, st⟩ := hr
    have un := go _ st
    obtain ⟨h2, tk, L, es, ep, t, rfl, R, g, keep⟩ := st.ex
    iterate (any_goals (first | assumption | wp_step))
end
/-! ### codes of tuples -/
theorem code_eq : ∀ (k : List Int) (a : Int), k.foldl (fun a i => a * 64 + i) a = a * 64 ^ k.length + TS.code 64 k
  | [], a => by simp [TS.code]
  | i :: k, a => by
    rw [List.foldl_cons, code_eq k]
    show (a * 64 + i) * 64 ^ k.length + TS.code 64 k = a * 64 ^ (k.length + 1) + (i * 64 ^ k.length + TS.code 64 k)
    rw [Int.pow_succ, Int.add_mul, Int.mul_assoc, Int.mul_comm 64, Int.add_assoc]
theorem code64_eq (k : List Int) : code64 k = TS.code 64 k := by
  unfold code64
  rw [code_eq k 0, Int.zero_mul, Int.zero_add]
theorem code_inj {B : Int} : ∀ (k m : List Int), k.length = m.length → TS.Bd B k → TS.Bd B m → TS.code B k = TS.code B m → k = m
  | [], [], _, _, _, _ => rfl
  | [], _ :: _, h, _, _, _ => by simp at h
  | _ :: _, [], h, _, _, _ => by simp at h
  | i :: k, j :: m, h0, bk, bm, e0 => by
    have h : k.length = m.length := by simpa using h0
    rcases Int.lt_trichotomy i j with z | z | z
    · exact absurd e0 (Int.ne_of_lt (TS.code_lt h bk.tail bm.tail z))
    · subst z
      have e : i * B ^ k.length + TS.code B k = i * B ^ m.length + TS.code B m := e0
      rw [h] at e
      rw [code_inj k m h bk.tail bm.tail (by omega)]
    · exact absurd e0.symm (Int.ne_of_lt (TS.code_lt h.symm bm.tail bk.tail z))
theorem nubL_mem (k : List Int) : ∀ l : List (List Int), k ∈ nubL l ↔ k ∈ l
  | [] => Iff.rfl
  | p :: l => by
    unfold nubL
    split
    · rename_i h
      have h : p ∈ l := by simpa using h
      rw [nubL_mem k l]
      exact ⟨fun z => List.mem_cons_of_mem _ z, fun z => (List.mem_cons.mp z).elim (fun e => e ▸ h) id⟩
    · simp [nubL_mem k l]
theorem nubL_nodup : ∀ l : List (List Int), (nubL l).Nodup
  | [] => List.nodup_nil
  | p :: l => by
    unfold nubL
    split
    · exact nubL_nodup l
    · rename_i h
      exact List.nodup_cons.mpr ⟨fun z => h (by simpa using (nubL_mem p l).mp z), nubL_nodup l⟩
theorem intsOf_rep {g : G} {φ : List Addr} {H : Hp} : ∀ {ds : List D} {xs : List V} {bs : List Int}, RepL g φ H xs ds → intsOf ds = some bs → xs = bs.map V.int
  | [], _, _, r, h => by
    cases r
    cases h
    rfl
  | d :: ds, _, _, r, h => by
    cases r with
    | cons r1 r2 =>
      cases d <;> simp only [intsOf, reduceCtorEq, Option.map_eq_some_iff] at h
      obtain ⟨l, e, rfl⟩ := h
      cases r1
      rw [intsOf_rep r2 e]
      rfl
theorem tups_rep {g : G} {φ : List Addr} {H : Hp} : ∀ {ds : List D} {xs : List V} {ks : List (List Int)}, RepL g φ H xs ds → tupsI ds = some ks →
    ∃ L : List (Addr × List Int), xs = L.map (fun p => V.ref p.1) ∧ L.map (·.2) = ks ∧ ∀ p ∈ L, SqT g.K H p.1 (p.2.map V.int)
  | [], _, _, r, h => by
    cases r
    cases h
    exact ⟨[], rfl, rfl, fun p hp => nomatch hp⟩
  | d :: ds, _, _, r, h => by
    cases r with
    | cons r1 r2 =>
      cases d <;> simp only [tupsI, reduceCtorEq] at h
      rename_i t
      split at h
      · rename_i k rr e1 e2
        cases h
        obtain ⟨L, f1, f2, f3⟩ := tups_rep r2 e2
        obtain ⟨a, ys, rfl, h1, h2⟩ := tup_inv r1
        have e3 := intsOf_rep h2 e1
        subst e3
        refine ⟨(a, k) :: L, by rw [List.map_cons, f1], by rw [List.map_cons, f2], fun p hp => ?_⟩
        rcases List.mem_cons.mp hp with rfl | hp
        · exact h1
        · exact f3 p hp
      · cases h
theorem repl_ints {g : G} {φ : List Addr} {H : Hp} : ∀ l : List Int, RepL g φ H (l.map V.int) (l.map D.int)
  | [] => .nil
  | i :: l => .cons (.int i) (repl_ints l)
section
variable {c : Cfg} {X' : Cx} {a : Expr} {xa : X} {p p2 q2 pos : Pos}
theorem snd_sortset (K : X'.K = c.g.K) (hc : X'.calm = true) (hu : X'.A.units + 200 < cLine) (B : Blt X' "sorted") (B2 : Blt X' "set") (ha : PE X' a (tX c xa)) (hs : starEach [a] X'.env = [(false, eval a X'.env)]) :
    PE X' (.Call (.Name "sorted" p) [.Call (.Name "set" p2) [a] [] q2] [] pos) (tCx c (.sorted xa true)) := by
  refine ⟨fun pins s σ H Q I ⟨φ, env, S, d, S', re, rs, ev, k⟩ => ?_⟩
  simp only [evC, if_true] at ev
  obtain ⟨d1, S1, e1, ev1⟩ := R.bind_ok_inv ev
  clear ev
  obtain ⟨e2, rfl⟩ := R.of_inv ev1
  simp only [Option.bind_eq_some_iff] at e2
  obtain ⟨ds, e3, e4⟩ := e2
  unfold setSortD at e4
  simp only [Option.bind_eq_some_iff] at e4
  obtain ⟨ks, e5, e6⟩ := e4
  split at e6
  case isFalse => cases e6
  rename_i hc2
  cases e6
  simp only [Bool.and_eq_true, decide_eq_true_eq, List.all_eq_true] at hc2
  obtain ⟨few, each⟩ := hc2
  refine Call_ (ld_blt I B.gl B.no PyProof.Rows.boot_sorted ?_)
  refine PyProof.Rows.callWith_builtin1 (PyProof.Rows.args_cons ?_ rfl) rfl rfl
  refine Call_ (ld_blt I B2.gl B2.no PyProof.Rows.boot_set ?_)
  refine PyProof.Rows.callWith_type1 (PyProof.Rows.args_cons (thn (ha.run pins s σ H (fun v H1 => ∃ φ1, Grow φ H φ1 H1 ∧ RS c.g c.cl φ1 S1 H1 ∧ Rep c.g φ1 H1 v d1) I (go re rs e1 fun φ1 H1 v g1 rs1 re1 r1 => ⟨φ1, g1, rs1, r1⟩)) fun v s1 ⟨x, H1, I1, r1, q1⟩ => PyProof.Rows.args_nil ?_) hs) hs rfl
  obtain ⟨φ1, g1, rs1, rx⟩ := q1
  obtain ⟨t, ys, rfl, hq, ry⟩ := seq_inv rs1 rx e3
  cases r1
  obtain ⟨L0, f1, f2, f3⟩ := tups_rep ry e5
  subst f1
  have tk : ∀ q ∈ L0, SqT X'.K H1 q.1 (q.2.map V.int) := fun q hq => by rw [K]; exact f3 q hq
  have at1 : ∀ q ∈ L0, IsT X'.prog X'.w s1.heap q.2 q.1 := fun q hq => I1.isT (tk q hq)
  have few0 : L0.length < 64 := by rw [← f2, List.length_map] at few; exact few
  have each0 : ∀ q ∈ L0, 1 ≤ q.2.length ∧ q.2.length = (ks.headD []).length ∧ TS.Bd 64 q.2 := fun q hq => by
    have z := each q.2 (by rw [← f2]; exact List.mem_map.mpr ⟨q, hq, rfl⟩)
    exact ⟨z.1.1, z.1.2, fun m hm => z.2 m hm⟩
  -- behind the set
  have rest : ∀ s2, Setted X'.prog X'.w L0 s1 s2 → wpAny (model X'.prog X'.w) X'.A (call (.builtin "sorted") [.ref s1.heap.objs.size]) (EP X' pins σ Q) X'.xe s2 := by
    intro s2 st
    obtain ⟨h2, tk2, L, es, ep, tb, rfl, R0, got, keep⟩ := st.ex
    have I2 : Inv X' pins σ H1 { s1 with heap := h2, toks := tk2 } := I1.kept keep
    have sub : ∀ q ∈ L, q ∈ L0 := fun q hq => List.mem_of_mem_take (got.sub q hq)
    have all : ∀ q ∈ L0, q.2 ∈ L.map (·.2) := fun q hq => got.all q (by rw [List.take_length]; exact hq)
    have fin : ∀ (L1 : List (Addr × List Int)), L1.Perm L → L1.Pairwise (fun q r => TS.code 64 q.2 ≤ TS.code 64 r.2) → L1.map (·.2) = (nubL ks).mergeSort fun a b => decide (code64 a ≤ code64 b) := by
      intro L1 pm pw
      have nd1 : (L1.map (·.2)).Nodup := (pm.map (·.2)).nodup_iff.mpr R0.nd
      have same : ∀ m, m ∈ L1.map (·.2) ↔ m ∈ ks := fun m => by
        rw [(pm.map (·.2)).mem_iff]
        constructor
        · intro z
          obtain ⟨q, hq, rfl⟩ := List.mem_map.mp z
          rw [← f2]
          exact List.mem_map.mpr ⟨q, sub q hq, rfl⟩
        · intro z
          rw [← f2] at z
          obtain ⟨q, hq, rfl⟩ := List.mem_map.mp z
          exact all q hq
      have pm2 : (L1.map (·.2)).Perm ((nubL ks).mergeSort fun a b => decide (code64 a ≤ code64 b)) := by
        refine ((List.perm_ext_iff_of_nodup nd1 (nubL_nodup ks)).mpr fun m => ?_).trans (List.mergeSort_perm _ _).symm
        rw [same, nubL_mem]
      refine List.Perm.eq_of_pairwise (le := fun a b => TS.code 64 a ≤ TS.code 64 b) (fun m n hm hn h1 h2 => ?_) (List.pairwise_map.mpr pw) ?_ pm2
      · have hm := each m ((same m).mp hm)
        have hn := each n ((same n).mp (pm2.mem_iff.mpr hn))
        exact code_inj m n (hm.1.2.trans hn.1.2.symm) (fun i hi => hm.2 i hi) (fun i hi => hn.2 i hi) (Int.le_antisymm h1 h2)
      · have := List.pairwise_mergeSort (le := fun a b : List Int => decide (code64 a ≤ code64 b)) (fun a b c h1 h2 => by
          simp only [decide_eq_true_eq] at h1 h2 ⊢; omega) (fun a b => by simp only [Bool.or_eq_true, decide_eq_true_eq]; omega) (nubL ks)
        exact this.imp fun {a b} h => by rw [← code64_eq, ← code64_eq]; simpa using h
    have dd : ∃ d, 1 ≤ d ∧ ∀ q ∈ L0, q.2.length = d := by
      rcases L0 with _ | ⟨q0, L1⟩
      · exact ⟨1, Nat.le_refl _, fun q hq => nomatch hq⟩
      · refine ⟨q0.2.length, (each0 q0 List.mem_cons_self).1, fun q hq => ?_⟩
        rw [(each0 q hq).2.1, (each0 q0 List.mem_cons_self).2.1]
    obtain ⟨d, d1, hd⟩ := dd
    refine sorted_setT R0 (I2.ok.hd hc) d1 (B := 64) (fun q hq => ⟨hd q (sub q hq), (each0 q (sub q hq)).2.2⟩) fun s' p out n L' k2 g2 o2 hp hg hout pm pw => ?_
    have len' : L'.length < 64 := by rw [pm.length_eq]; exact R0.few
    have hn : H1 p = none := I2.hok.fresh hp
    have hv : Vals (L'.map fun q => V.ref q.1) out.toList := by rw [hout]; exact vals_of_refs L'
    have J : Inv X' pins σ (upd H1 p (.lst (L'.map fun q => V.ref q.1))) s' :=
      I2.call' (ch := []) o2 (Un.laid k2 hp hn) (I2.hok.laid k2 hp ⟨by rw [List.length_map, sizeLine_eq]; omega, out.toList, n, hv, hg⟩) (by rw [g2]; exact I2.bare) (fun _ z => nomatch z)
    have gr : Grow φ1 H1 φ1 (upd H1 p (.lst (L'.map fun q => V.ref q.1))) := Grow.new hn
    refine ⟨.ref p, _, J, rfl, k φ1 _ p _ (g1.trans gr) (rs1.new hn) (RepL.mono gr _ _ ?_) (fresh_before g1 rs1 hn) upd_same (rs1.free hn)⟩
    rw [← fin L' pm pw, List.map_map]
    refine repl_map fun q hq => ?_
    have z := sub q (pm.mem_iff.mp hq)
    exact .tup (f3 q z) (repl_ints q.2)
  rcases hq with hq | hq
  · obtain ⟨hz, its, n, rits, _, e⟩ := hq.obj I1
    exact call_set_tups L0 (I1.ok.hd hc) ⟨_, e, rfl, n, rfl⟩ (by simpa using refs_of_vals rits) at1 few0 (by omega) fun h' tk2 L es ep tb R0 got keep => PyProof.Rows.args_nil (rest _ ⟨h', tk2, L, es, ep, tb, rfl, R0, got, keep⟩)
  · rw [← K] at hq
    obtain ⟨its, r, pl, hz2⟩ := I1.tuple hq
    exact call_set_tupT L0 (I1.ok.hd hc) pl (by simpa using refs_of_vals r) at1 few0 (by omega) fun s2 st => PyProof.Rows.args_nil (rest _ st)
end
end Rx

set_option Elab.async false
set_option autoImplicit false
set_option linter.all false
set_option maxRecDepth 100000
set_option maxHeartbeats 1000000
/-! RxE: dict comprehensions over tuple keys. -/
namespace Rx
open PySem PySem.Spec PyProof.Rows L2
/-- said of each block that the clause opens -/
abbrev InBlk (X : Cx) (scope : Scope) (p : Cx → Prop) : Prop := ∀ (s : Shared) (H : Hp) (C : Addr) (cl : List (Str × Addr)) (fp : List Addr), p (X.blk s H scope (compEnvC scope cl C X.env) fp)
/-- a row put by a block -/
def DPut (Y : Cx) (r : Addr → V → V → Hp → (Hp → Prop) → Prop) : Prop := ∀ (pins : List (Addr × Obj)) (σ : L2.St) (H : Hp) (s : Shared) (E : Value → Shared → Prop) (D : Addr) (y z : V) (u t : Value) (Nx : Hp → Prop),
  Inv Y pins σ H s → RelV y u → RelV z t → r D y z H Nx → wpAny (model Y.prog Y.w) Y.A (dictSet D u t) (fun _ s' => ∃ H', Inv Y pins σ H' s' ∧ Nx H') E s
abbrev mtD (X : Cx) (D : Addr) : HO := .ext (rawD X.prog X.w D [])
def tDx (X : Cx) (wi : TI) (g : TG) (tt : TT) (tk tv : TE) (r : Addr → V → V → Hp → (Hp → Prop) → Prop) (vs : List Nat) : TE := fun σ H Q => wi σ H fun J H1 => ∀ D, H1 D = none → ∃ W : Nat → Nat → Hp → Prop, (∃ m, W 0 m (upd H1 D (mtD X D))) ∧ ∀ i m H, W i m H →
  (J.stop i H ∧ Q (.ref D) H) ∨ (J.go i H ∧ ∃ Nx : Hp → Prop, (∀ H', Nx H' → ∃ m', m' < m ∧ W (i + 1) m' H') ∧ ∀ x H', J.yld i H x H' → g x (wipe σ vs) H' fun σ2 H2 => wipe σ2 vs = wipe σ vs ∧ tt σ2 H2 fun b H3 =>
    if b = true then tk σ2 H3 fun y H4 => tv σ2 H4 fun z H5 => r D y z H5 Nx else Nx H3)
section
variable {X : Cx}
theorem mt_ok {s : Shared} {H : Hp} {pins : List (Addr × Obj)} {σ : L2.St} (I : Inv X pins σ H s) :
    ObjOk X.prog X.w (upd H s.heap.objs.size (mtD X s.heap.objs.size)) (s.heap.push { cls := .type "dict", data := .dict #[] }) s.heap.objs.size (mtD X s.heap.objs.size) := by
  have at0 := Heap.get?_push_size s.heap (o := { cls := .type "dict", data := .dict #[] }) rfl
  have nb : (s.heap.objs.size == sysModules) = false := by
    have := I.big
    exact beq_false_of_ne (Nat.ne_of_gt this)
  refine ⟨⟨nb, Nat.zero_le _, [], .nil, _, #[], _, at0, ⟨rfl, rfl, rfl⟩, rfl, rfl, List.nodup_nil⟩, ⟨_, at0⟩, fun g1 g2 z kp => ?_⟩
  obtain ⟨z1, z2, vs', z3, o', es', ep', z4, z5⟩ := z
  exact ⟨z1, z2, vs', z3, o', es', ep', kp o' z4, z5⟩
variable {kx vx tg iter : Expr} {ifs : List Expr} {scope : Scope} {own : List (Str × Nat)} {pos : Pos} {wi : TI} {g : TG} {tt : TT} {tk tv : TE} {r : Addr → V → V → Hp → (Hp → Prop) → Prop}
theorem pe_dx (calm : X.calm = true) (nd : X.N.Nodup) (hi : PI X tg iter wi) (ok : BlkOk X.N X.env.scope scope own) (bg : InBlk X scope fun Y => PG Y tg g) (bt : InBlk X scope fun Y => PTs Y ifs tt) (bk : InBlk X scope fun Y => PE Y kx tk) (bv : InBlk X scope fun Y => PE Y vx tv)
    (bp : InBlk X scope fun Y => DPut Y r) (pl : ∀ x, foldedSetIterable iter X.env x = pure x) : PE X (.DictComp kx vx [⟨tg, iter, ifs, 0⟩] scope pos) (tDx X wi g tt tk tv r (own.map (·.2))) := by
  constructor
  intro pins s0 σ H Q I start
  rw [arm_eval_DictComp]
  have caught : ∀ y ∈ scope.names, y.2 = .free → ∃ b, X.env.cells.lookup y.1 = some b := fun y hy e => (ok.free y hy e).elim (fun k => I.ok.has _ (.inl k)) fun k => I.ok.has _ (.inr k)
  refine wpAny_comprehension_free (use := none) rfl pl (closure_ok caught) ok.kind (fun y hy e => (ok.uniq y hy).trans (congrArg some e)) (thn (hi.run pins s0 σ H _ I start) fun _ s1 it1 => thn it1 fun _ s2 it2 => ?_)
  obtain ⟨it, fp, tn, J, H2, rfl, I2, T, t2, f2, more⟩ := it2
  refine wpAny_newObj_type (newEnv_comp ?_)
  obtain ⟨D, eD⟩ : ∃ D, s2.heap.objs.size = D := ⟨_, rfl⟩
  have free2 : H2 D = none := I2.hok.fresh (Nat.le_of_eq eD)
  obtain ⟨W, ⟨m0, w0⟩, turn⟩ := more D free2
  obtain ⟨s3, e3⟩ : ∃ s3 : Shared, s3 = { s2 with heap := s2.heap.push { cls := .type "dict", data := .dict #[] } } := ⟨_, rfl⟩
  have hp3 : s3.heap = s2.heap.push { cls := .type "dict", data := .dict #[] } := by rw [e3]
  obtain ⟨H3, eH⟩ : ∃ H3 : Hp, H3 = upd H2 D (mtD X D) := ⟨_, rfl⟩
  have I3 : Inv X pins σ H3 s3 := by
    subst e3 eH eD
    exact I2.laid (t' := s2.toks) (fun _ _ q => Heap.get?_push_of_some _ q) (Nat.le_refl _) (mt_ok I2)
  rw [← eH] at w0
  have low : ∀ b ∈ fp, b < D := fun b hb => by
    obtain ⟨_, e, _⟩ := T.obj _ _ t2 b hb
    exact eD ▸ Heap.lt_size e
  have f3 : ∀ b ∈ fp, FpOk X pins H3 b ∧ b < s3.heap.objs.size := fun b hb => by
    obtain ⟨n1, n2⟩ := f2 b hb
    refine ⟨⟨by rw [eH, upd_ne (Nat.ne_of_lt (low b hb))]; exact n1, n2⟩, ?_⟩
    rw [hp3, Heap.size_push, eD]
    exact Nat.lt_succ_of_lt (low b hb)
  have t3 : tn 0 s3.heap := T.keep _ _ _ t2 fun _ _ _ q => hp3 ▸ Heap.get?_push_of_some _ q
  have I4 := block_start I3 ok nd f3
  obtain ⟨cl, ecl⟩ : ∃ cl, cellsFrom (s3.heap.objs.size + 1) scope.names (cloFrom X.env.cells scope.names []) = cl := ⟨_, rfl⟩
  obtain ⟨C, eC⟩ : ∃ C, s3.heap.objs.size = C := ⟨_, rfl⟩
  obtain ⟨cv, ecv⟩ : ∃ cv, compEnvC scope cl C X.env = cv := ⟨_, rfl⟩
  obtain ⟨s4, e4⟩ : ∃ s4 : Shared, { s3 with heap := pushCells (s3.heap.push { cls := .type "dict", data := .dict #[] }) scope.names } = s4 := ⟨_, rfl⟩
  have kg := bg s3 H3 C cl fp
  have kt := bt s3 H3 C cl fp
  have kk := bk s3 H3 C cl fp
  have kv := bv s3 H3 C cl fp
  have kp := bp s3 H3 C cl fp
  rw [ecv] at kg kt kk kv kp
  rw [ecl, eC, ecv, e4] at I4
  have locC : cv.locals = C := by rw [← ecv]; rfl
  have t4 : tn 0 s4.heap := T.keep _ _ _ t3 fun _ _ _ q => e4 ▸ pushCells_keeps _ _ _ _ (Heap.get?_push_of_some _ q)
  have calmY : (X.blk s3 H3 scope cv fp).calm = true := calm
  -- the iterator's objects are the block's own
  have mine : ∀ {σ' : L2.St} {H' : Hp} {s' : Shared}, Inv (X.blk s3 H3 scope cv fp) [] σ' H' s' → (∀ b ∈ fp, H' b = none) → ∀ b ∈ fp, FpOk (X.blk s3 H3 scope cv fp) [] H' b := fun {σ' H' s'} I' no b hb => by
    have x1 := I'.ok.exf b hb
    refine ⟨no b hb, x1.1, I'.ok.exfs b hb, .inl hb, fun x b' e => x1.2 x b' e, fun q hq => ?_⟩
    cases (show q ∈ ([] : List (Addr × Obj)) from hq)
  let St : Nat → Shared → Prop := fun n s' => ∃ i H', Inv (X.blk s3 H3 scope cv fp) [] (wipe σ (own.map (·.2))) H' s' ∧ tn i s'.heap ∧ (∀ b ∈ fp, H' b = none) ∧ W i n H'
  have loop : codeAny (model X.prog X.w) X.A (.compLoop (.DictComp kx vx [⟨tg, iter, ifs, 0⟩] scope pos) 0 (.ref it) (.ref D) cv) (compPost (model X.prog X.w) X.A X.xe none (EP X pins σ Q) (.ref D) C) s4 := by
    refine compLoop_anyD St (fun n s5 st => ?_) m0 ⟨0, H3, I4, t4, fun b hb => (f3 b hb).1.1, w0⟩
    obtain ⟨i, H5, I5, t5, n5, w5⟩ := st
    rcases turn i n H5 w5 with ⟨over, fin⟩ | ⟨more, Nx, dec, step⟩
    · refine thnF (T.done (X.blk s3 H3 scope cv fp) rfl rfl rfl calmY i [] s5 _ H5 (fun _ _ => False) I5 (mine I5 n5) t5 over) fun a s6 z => ?_
      obtain ⟨rfl, I6⟩ := z
      have I7 : Inv X pins σ H5 s6 := I3.call' (ch := fp) I6.os I6.base I6.hok I6.bare fun b hb => by
        obtain ⟨_, p1, p2, p3, p4, p5⟩ := (f3 b hb).1
        exact ⟨p3, p1, p4, p5⟩
      obtain ⟨m, ns, _⟩ := I6.loc
      have ns : s6.heap.Ns cv.locals m := ns
      have nC : H5 cv.locals = none := I6.free
      rw [locC] at ns nC
      obtain ⟨z0, z1, z2, z3, z4, z5⟩ : FpOk X pins H5 C := I3.fpOk (Nat.le_of_eq eC) nC
      exact ⟨m, ns, fun h sb => ⟨.ref D, H5, I7.turned (t' := s6.toks) (fun b o hb e => (sb.2 b hb).trans e) z0 z1 z3 z4 z5, rfl, fin⟩⟩
    · refine thnF (T.item (X.blk s3 H3 scope cv fp) rfl rfl rfl calmY i [] s5 _ H5 (fun _ _ => False) I5 (mine I5 n5) t5 more) fun a s6 z => ?_
      obtain ⟨u, rfl, h6⟩ := z
      refine thnF h6 fun _ s7 z7 => ?_
      obtain ⟨x, H7, I7, r7, y7, t7, n7⟩ := z7
      have I8 := I7.pinned (mine I7 n7) (T.obj _ _ t7)
      refine thnF (kg.run _ s7 _ H7 x u _ I8 r7 (step x H7 y7)) fun _ s8 z8 => ?_
      obtain ⟨σ8, H8, J8, same8, q8⟩ := z8
      refine thnF (kt.run _ s8 σ8 H8 _ J8 q8) fun b s9 z9 => ?_
      obtain ⟨H9, J9, q9⟩ := z9
      have again : ∀ {s' : Shared} {H' : Hp}, Inv (X.blk s3 H3 scope cv fp) ([] ++ pinsAt fp s7.heap) σ8 H' s' → Nx H' → ∃ m, m < n ∧ St m s' := fun {s' H'} I' nx => by
        obtain ⟨m', lt, w'⟩ := dec H' nx
        have pinned : ∀ b ∈ fp, ∀ o, s7.heap.get? b = some o → s'.heap.get? b = some o ∧ H' b = none := fun b hb o e => by
          obtain ⟨p1, p2, _⟩ := I'.pin (b, o) (List.mem_append_right _ (List.mem_append_right _ (mem_pinsAt hb e)))
          exact ⟨p1, p2⟩
        have len : (wipe σ (own.map (·.2))).length = σ8.length := (congrArg List.length same8).symm.trans (wipe_length _ _)
        refine ⟨m', lt, i + 1, H', (I'.unpinned (pins := [])).weak len (fun j v e => ?_), T.keep _ _ _ t7 fun b hb o e => (pinned b hb o e).1, fun b hb => ?_, w'⟩
        · exact (wipe_some (same8 ▸ e)).1
        · obtain ⟨o, e, _⟩ := T.obj _ _ t7 b hb
          exact (pinned b hb o e).2
      cases b
      · simp only [Bool.false_eq_true, if_false] at q9 ⊢
        exact again J9 q9
      · simp only [if_true] at q9 ⊢
        refine thnF (kk.run _ s9 σ8 H9 _ J9 q9) fun uk s10 zk => ?_
        obtain ⟨yk, H10, J10, rk, q10⟩ := zk
        refine thnF (kv.run _ s10 σ8 H10 _ J10 q10) fun uv s11 zv => ?_
        obtain ⟨yv, H11, J11, rv, q11⟩ := zv
        -- the key's relation from before holds: it is said of the value alone
        refine wpAny_mono (kp _ σ8 H11 s11 _ D yk yv uk uv Nx J11 rk rv q11) (fun _ s12 z12 => ?_) fun _ _ z => z
        obtain ⟨H12, J12, nx⟩ := z12
        exact again J12 nx
  have done := codeAny_compStart_dict loop (T.self X.A 0 _ _ _ t4 loop)
  rw [← e4, ← ecv, ← eC, ← ecl] at done
  subst e3
  rw [eD]
  exact done
end
section
variable {c : Cfg} {X' : Cx}
/-- a row put -/
theorem dput_d (K : X'.K = c.g.K) (hP : X'.prog = c.g.P) (hw : X'.w = c.g.w) (hu : X'.A.units + 200 < cLine) : DPut X' fun D y z H Nx => rSetD c (.ref D) y z H Nx := by
  intro pins σ H s E D y z u t Nx I ry rz h
  obtain ⟨φ, S, dx, dy, dv, S', rs, px, py, pv, e, q⟩ := h
  obtain ⟨n, kvs, k, rfl, e1, e2, hz, rfl⟩ := dput_inv e
  obtain ⟨b, rfl, rfl, kb⟩ := key_is K I e2 py ry
  obtain ⟨a, xs, vs, ea, h1, h2, h3, h4, h5, h6, h7⟩ := dict_at K hP hw I rs px e1
  cases ea
  obtain ⟨k1, k2, _⟩ := okKey_inv e2
  have hl := KRel.length h3
  have hz2 : xs.length < sizeLine := by rw [sizeLine_eq]; omega
  refine wpAny_dictSet_heap (hsz := by rw [← paired_len h4]; omega) (show X'.A.units + 8 < cLine by omega) kb h7 fun h' hm hs => ?_
  obtain ⟨H', I', g', rs'⟩ := dict_put (tk := s.toks + (nestedKind X'.prog X'.w).draws k) hP hw I rs h1 h2 h3 h4 h5 hz2 py k1 k2 pv rz hm hs
  exact ⟨H', I', q H' g' rs'⟩
/-- turns that leave but the store -/
theorem go_turns {src : Src} {turn : D → List O → R (Option D)} {φ0 φs : List Addr} {H0 Hs : Hp} {J : It} {body : V → Hp → (Hp → Prop) → Prop} {Qd : Hp → Prop} {l : List D} {S S' : List O}
    (gs : Grow φ0 H0 φs Hs) (sv : Serves c φs Hs src J) (ev : compL src turn src.list S = .ok l S') (rs0 : RS c.g c.cl φs S Hs)
    (step : ∀ φ H x d S o S1 (Nx : Hp → Prop), Grow φ0 H0 φ H → Grow φs Hs φ H → RS c.g c.cl φ S H → Rep c.g φ H x d → turn d S = .ok o S1 → (∀ φ' H', Grow φ H φ' H' → RS c.g c.cl φ' S1 H' → Nx H') → body x H Nx)
    (fin : ∀ φ' H', Grow φ0 H0 φ' H' → Grow φs Hs φ' H' → RS c.g c.cl φ' S' H' → Qd H') :
    ∃ W : Nat → Nat → Hp → Prop, (∃ m, W 0 m Hs) ∧ ∀ i m H, W i m H → (J.stop i H ∧ Qd H) ∨ (J.go i H ∧ ∃ Nx : Hp → Prop, (∀ H', Nx H' → ∃ m', m' < m ∧ W (i + 1) m' H') ∧ ∀ x H', J.yld i H x H' → body x H' Nx) := by
  refine ⟨fun i m H => m = src.list.length - i ∧ i ≤ src.list.length ∧ ∃ φ S1 l2, Grow φ0 H0 φ H ∧ Grow φs Hs φ H ∧ RS c.g c.cl φ S1 H ∧ compL src turn (src.list.drop i) S1 = .ok l2 S',
    ⟨src.list.length, by simp, Nat.zero_le _, φs, S, l, gs, Grow.refl _ _, rs0, ev⟩, ?_⟩
  rintro i m H ⟨rfl, hi, φ, S1, l2, g1, g2, rs, ev1⟩
  rcases Nat.lt_or_ge i src.list.length with lt | ge
  · have e0 : src.list.drop i = src.list[i] :: src.list.drop (i + 1) := List.drop_eq_getElem_cons lt
    rw [e0] at ev1
    simp only [compL] at ev1
    split at ev1
    · rename_i st
      obtain ⟨o, S2, e1, ev2⟩ := R.bind_ok_inv ev1
      obtain ⟨q, S3, e2, ev3⟩ := R.bind_ok_inv ev2
      clear ev ev1 ev2
      cases ev3
      obtain ⟨go, yl⟩ := (sv i φ H S1 g2.toExt rs st).1 src.list[i] (List.getElem?_eq_getElem lt)
      refine .inr ⟨go, fun H' => ∃ φ', Grow φ0 H0 φ' H' ∧ Grow φs Hs φ' H' ∧ RS c.g c.cl φ' S2 H', fun H' nx => ?_, fun x H' y => ?_⟩
      · obtain ⟨φ', k1, k2, k3⟩ := nx
        exact ⟨_, by omega, rfl, lt, φ', S2, _, k1, k2, k3, e2⟩
      · obtain ⟨g3, rs3, r3⟩ := yl x H' y
        exact step φ H' x _ S1 o S2 _ (g1.trans g3) (g2.trans g3) rs3 r3 e1 fun φ' H'' g4 rs4 => ⟨φ', (g1.trans g3).trans g4, (g2.trans g3).trans g4, rs4⟩
    · cases ev1
  · have e0 : i = src.list.length := Nat.le_antisymm hi ge
    rw [List.drop_eq_nil_of_le ge] at ev1
    simp only [compL] at ev1
    split at ev1
    · rename_i st
      cases ev1
      exact .inl ⟨(sv i φ H _ g2.toExt rs st).2 e0, fin φ H g1 g2 rs⟩
    · cases ev1
variable {kx vx tg iter : Expr} {ifs : List Expr} {scope : Scope} {own : List (Str × Nat)} {pos : Pos} {k v : X} {p : Pt} {it : I} {cs : List X}
theorem rd_dcomp (hP : X'.prog = c.g.P) (hw : X'.w = c.g.w) : ∀ σ H Q, tX c (.dcomp (own.map (·.2)) k v p it cs) σ H Q → (∀ i ∈ p.slots, i ∈ own.map (·.2)) → tDx X' (tI c it) (tG c p) (tXi c cs) (tX c k) (tX c v) (fun D y z H Nx => rSetD c (.ref D) y z H Nx) (own.map (·.2)) σ H Q := by
  intro σ H Q ⟨φ, env, S, d, S', re, rs, ev, kk⟩ hps
  simp only [evE] at ev
  obtain ⟨src, S1, e1, ev1⟩ := R.bind_ok_inv ev
  obtain ⟨l', S2, e2, ev2⟩ := R.bind_ok_inv ev1
  clear ev ev1
  cases ev2
  refine ⟨φ, env, S, src, S1, re, rs, e1, fun φ1 H1 J g1 rs1 sv => fun D hD => ?_⟩
  obtain ⟨g2, rs2⟩ := rs1.push (o := .dict []) (u := mtD X' D) hD ⟨[], by rw [hP, hw], trivial⟩
  have at1 : (φ1 ++ [D])[S1.length]? = some D := by
    rw [← rs1.len, List.getElem?_append_right (Nat.le_refl _)]
    simp
  refine go_turns (c := c) (φ0 := φ) (H0 := H) (J := J) (src := src) (body := fun x H' Nx => tG c p x (wipe σ (own.map (·.2))) H' fun σ2 H2 => wipe σ2 (own.map (·.2)) = wipe σ (own.map (·.2)) ∧ tXi c cs σ2 H2 fun b H3 =>
      if b = true then tX c k σ2 H3 fun y H4 => tX c v σ2 H4 fun z H5 => rSetD c (.ref D) y z H5 Nx else Nx H3) (g1.trans g2) (fun i φ' H' S'' ex => sv i φ' H' S'' (g2.toExt.trans ex)) e2 rs2 ?_ fun φ' H' g3 g4 rs3 => kk φ' H' _ g3 rs3 (.ref (g4.toExt.get at1))
  intro φ2 H2 x d S3 o S4 Nx g3 g4 rs3 rd ht nx
  split at ht
  · rename_i env' hput
    refine ⟨φ2, _, S3, d, env', (re.mono g3).wipe (own.map (·.2)), rs3, rd, hput, fun σ2 re2 so => ⟨?_, ?_⟩⟩
    · rw [wipe_same (so.mono hps), wipe_wipe]
    obtain ⟨t, S6, ht1, ht2⟩ := R.bind_ok_inv ht
    refine ⟨φ2, env', S3, t, S6, re2, rs3, ht1, fun φ3 H3 g5 rs5 => ?_⟩
    cases t with
    | false =>
      simp only [Bool.false_eq_true, if_false] at ht2 ⊢
      cases ht2
      exact nx φ3 H3 g5 rs5
    | true =>
      simp only [if_true] at ht2 ⊢
      obtain ⟨y, S7, ht3, ht4⟩ := R.bind_ok_inv ht2
      obtain ⟨z, S8, ht5, ht6⟩ := R.bind_ok_inv ht4
      clear ht ht2 ht4
      split at ht6
      · rename_i S9 hput2
        cases ht6
        exact go (re2.mono g5) rs5 ht3 fun φ4 H4 vy g6 rs6 re6 ry => go re6 rs6 ht5 fun φ5 H5 vz g7 rs7 _ rz =>
          ⟨φ5, S8, .ref S1.length, y, z, _, rs7, .ref ((((g4.toExt.trans g5.toExt).trans g6.toExt).trans g7.toExt).get at1), Rep.mono g7 _ _ ry, rz, hput2, fun H' g8 rs8 => nx φ5 H' (((g5.trans g6).trans g7).trans g8) rs8⟩
      · cases ht6
  · cases ht
theorem snd_dcomp (hP : X'.prog = c.g.P) (hw : X'.w = c.g.w) (K : X'.K = c.g.K) (hu : X'.A.units + 200 < cLine) (calm : X'.calm = true) (nd : X'.N.Nodup) (hi : PI X' tg iter (tI c it)) (ok : BlkOk X'.N X'.env.scope scope own) (hps : ∀ i ∈ p.slots, i ∈ own.map (·.2))
    (bg : InBlk X' scope fun Y => PG Y tg (tG c p)) (bt : InBlk X' scope fun Y => PTs Y ifs (tXi c cs)) (bk : InBlk X' scope fun Y => PE Y kx (tX c k)) (bv : InBlk X' scope fun Y => PE Y vx (tX c v)) (pl : ∀ x, foldedSetIterable iter X'.env x = pure x) :
    PE X' (.DictComp kx vx [⟨tg, iter, ifs, 0⟩] scope pos) (tX c (.dcomp (own.map (·.2)) k v p it cs)) :=
  PE.imp (pe_dx (r := fun D y z H Nx => rSetD c (.ref D) y z H Nx) calm nd hi ok bg bt bk bv (fun s H C cl fp => dput_d K hP hw hu) pl) fun σ H Q h => rd_dcomp hP hw σ H Q h hps
end
end Rx

set_option Elab.async false
set_option autoImplicit false
set_option linter.all false
set_option maxRecDepth 100000
set_option maxHeartbeats 1000000
/-! RxF: written dicts of the module. -/
namespace Rx
open PySem PySem.Spec PyProof.Rows L2
section
variable {c : Cfg}
/-- a value that no change touches -/
def Fast (g : G) (d : D) (u : Value) : Prop := ∃ v, RelV v u ∧ ∀ φ H, Rep g φ H v d
inductive RowsAre (g : G) : List DictEntry → List D → Prop where
  | nil : RowsAre g [] []
  | cons {e : DictEntry} {l : List DictEntry} {k : Str} {t : Tok} {d : D} {r : List D} : e.key = .str k t → Fast g d e.val → RowsAre g l r → RowsAre g (e :: l) (.tup [.str k, d] :: r)
theorem RowsAre.find {g : G} (x : Str) : ∀ {l : List DictEntry} {r : List D}, RowsAre g l r → (kfind r x = none ∧ (l.find? fun e => Value.isStrOf x e.key) = none) ∨ ∃ d e, kfind r x = some d ∧ (l.find? fun e => Value.isStrOf x e.key) = some e ∧ Fast g d e.val
  | _, _, .nil => .inl ⟨rfl, rfl⟩
  | e :: l, _, .cons (k := k) (t := t) (d := d) (r := r) h1 h2 h3 => by
    by_cases h : k = x
    · subst h
      refine .inr ⟨d, e, by simp [kfind], ?_, h2⟩
      rw [List.find?_cons, h1]
      simp [Value.isStrOf]
    · have f1 : kfind (.tup [.str k, d] :: r) x = kfind r x := by simp [kfind, h]
      have f2 : ((e :: l).find? fun e => Value.isStrOf x e.key) = l.find? fun e => Value.isStrOf x e.key := by
        rw [List.find?_cons, h1]
        show (match k == x with | true => some e | false => _) = _
        rw [beq_eq_false_iff_ne.mpr h]
      rw [f1, f2]
      exact RowsAre.find x h3
/-- at a: the written dict t -/
structure Kd (g : G) (K : PySem.W.Frag) (w : World) (a : Addr) (rows : List D) : Prop where
  is : ∃ es n, KDict K w a es n ∧ RowsAre g es.toList rows
variable {X' : Cx} {a : Addr} {rows : List D} {o e f : Expr} {xb xc : X} {pos apos : Pos}
theorem Kd.ty (T : Kd c.g X'.K X'.w a rows) {H : Hp} : TyE X' "dict" (.ref a) H := fun pins σ s v I r => by
  obtain ⟨es, n, D, _⟩ := T.is
  cases r
  refine ⟨kd_type D I, fun b hb => ?_⟩
  cases hb
  exact ⟨_, I.kIn _ _ D.at_, rfl⟩
def rKget (c : Cfg) (a : Addr) (rows : List D) : V → List V → Hp → VK → Prop := fun x vs H Q => ∃ φ S z y dz, RS c.g c.cl φ S H ∧ x = .ref a ∧ vs = [.str z, y] ∧ Rep c.g φ H y dz ∧ ∀ v, Rep c.g φ H v ((kfind rows z).getD dz) → Q v H
theorem mt_kget (T : Kd c.g X'.K X'.w a rows) : MtR X' "dict.get" (rKget c a rows) := by
  intro pins s σ H x vs v us Q I rx rv h
  obtain ⟨φ, S, z, y, dz, rs, rfl, rfl, py, q⟩ := h
  obtain ⟨es, n, D, R0⟩ := T.is
  cases rx
  cases rv with
  | cons r1 rv =>
    obtain ⟨u2, rfl, r2⟩ := vals1 rv
    obtain ⟨t, rfl⟩ := r1
    have mp := PySem.W.mapOf_K (prog := X'.prog) (w := X'.w) I.kIn D.at_ D.lit
    refine call_meetsIn PySem.F.slot_dict_get mp.typeIs PySem.F.entry_dict_get (PySem.F.args_dict_get_3 _ _ _) (meets_dict_get_default (PySem.strKind X'.prog X'.w) _ (PySem.strKind_is X'.prog X'.w z t) D.low u2) ⟨_, mp, ?_⟩
    obtain ⟨l, rfl⟩ : ∃ l, es = l.toArray := ⟨es.toList, rfl⟩
    have fd : findBy Value.isStrOf l.toArray z = (l.find? fun e => Value.isStrOf z e.key).map (·.val) := by
      unfold findBy
      rw [List.find?_toArray]
    rcases R0.find z with ⟨e1, e2⟩ | ⟨d, e, e1, e2, v, e3, e4⟩
    · rw [e1] at q
      have e2' : (l.find? fun e => Value.isStrOf z e.key) = none := e2
      rw [fd, e2']
      exact ⟨y, H, I.tok _, r2, q y py⟩
    · rw [e1] at q
      have e2' : (l.find? fun e => Value.isStrOf z e.key) = some e := e2
      rw [fd, e2']
      exact ⟨v, H, I.tok _, e3, q v (e4 φ H)⟩
theorem snd_kget {i : Nat} (hi : c.cs i = some (.tup rows)) (T : Kd c.g X'.K X'.w a rows) (ho : PE X' o (tC (.ref a))) (ha : PA X' [e, f] (tXs c [xb, xc])) (hbase : attributeBase o "get" X'.env (eval o X'.env) = eval o X'.env)
    (hfew : ((backTo pos (starEach [e, f] X'.env)).all (fun x => !x.1) && (backToKw pos (keywordEach [] X'.env)).all (fun x => x.1.isSome) && decide ([e, f].length + ([] : List Keyword).length + (if ([] : List Keyword).isEmpty then 0 else 1) < 30)) = true)
    (hline : (apos.endLine == pos.line) = true) (hs : starEach [e, f] X'.env = (false, eval e X'.env) :: starEach [f] X'.env) (hpl : (backTo pos (starEach [f] X'.env)).any (·.1) = false) : PE X' (.Call (.Attribute o "get" apos) [e, f] [] pos) (tX c (.kget i xb xc)) :=
  PE.imp (pe_bmg PySem.F.plainAttrs_dict PySem.F.slot_dict_get PySem.F.type_dict_get (mt_kget T) ho ha hbase hfew hline hs hpl) fun σ H Q ⟨φ, env, S, d, S', re, rs, ev, k⟩ => by
    simp only [evE] at ev
    obtain ⟨d2, S2, e2, ev2⟩ := R.bind_ok_inv ev
    obtain ⟨d3, S3, e3, ev3⟩ := R.bind_ok_inv ev2
    clear ev ev2
    obtain ⟨e4, rfl⟩ := R.of_inv ev3
    unfold kgetD at e4
    rw [hi] at e4
    split at e4
    · rename_i rows' x he
      cases he
      cases e4
      refine ⟨T.ty, gos (ds := [.str x, d3]) (S1 := S3) re rs (by simp [evEs, e2, e3]) fun φ2 H2 vs g2 rs2 re2 r2 => ?_⟩
      obtain ⟨y, z, rfl, ry, rz⟩ := two_inv r2
      cases ry
      exact ⟨φ2, S3, x, z, d3, rs2, rfl, rfl, rz, fun v rv => k φ2 H2 v g2 rs2 rv⟩
    · cases e4
end
end Rx

set_option Elab.async false
set_option autoImplicit false
set_option linter.all false
set_option maxRecDepth 100000
set_option maxHeartbeats 1000000
/-! Rx19: the facts of form that the rules ask, by a look at the text. -/
namespace Rx
open PySem PySem.Spec PyProof.Rows L2
def noStar : Expr → Bool
  | .Starred _ _ => false
  | _ => true
theorem star_cons {e : Expr} {es : List Expr} {env : PySem.Env} (h : noStar e = true) : starEach (e :: es) env = (false, eval e env) :: starEach es env := by
  cases e <;> first | rfl | simp [noStar] at h
theorem star_any {pos : Pos} {env : PySem.Env} : ∀ {es : List Expr}, es.all noStar = true → (backTo pos (starEach es env)).any (·.1) = false
  | [], _ => rfl
  | e :: es, h => by
    simp only [List.all_cons, Bool.and_eq_true] at h
    rw [star_cons h.1]
    have := star_any (pos := pos) (env := env) h.2
    simp only [backTo, List.map_cons, List.any_cons, Bool.false_or] at this ⊢
    exact this
theorem star_all {pos : Pos} {env : PySem.Env} : ∀ {es : List Expr}, es.all noStar = true → (backTo pos (starEach es env)).all (fun x => !x.1) = true
  | [], _ => rfl
  | e :: es, h => by
    simp only [List.all_cons, Bool.and_eq_true] at h
    rw [star_cons h.1]
    have := star_all (pos := pos) (env := env) h.2
    simp only [backTo, List.map_cons, List.all_cons, Bool.not_false, Bool.true_and] at this ⊢
    exact this
def notCall : Expr → Bool
  | .Call _ _ _ _ => false
  | _ => true
theorem attr_plain {e : Expr} {f : Str} {env : PySem.Env} {w : Sem Value} (h : notCall e = true) : attributeBase e f env w = w := by
  cases e <;> first | rfl | simp [notCall] at h
def notComp : Expr → Bool
  | .ListComp _ _ _ _ => false
  | .SetComp _ _ _ _ => false
  | .DictComp _ _ _ _ _ => false
  | _ => true
theorem sw_plain {e : Expr} {t : Option Expr} {l : Nat} {env : PySem.Env} (h : notComp e = true) : swapsWith e t l env = pure false := by
  cases e <;> first | rfl | simp [notComp] at h
def notName : Expr → Bool
  | .Name _ _ => false
  | _ => true
theorem sw_other {e t : Expr} {l : Nat} {env : PySem.Env} (h : notName t = true) : swapsWith e (some t) l env = pure false := by
  cases e <;> first | rfl | (cases t <;> first | rfl | simp [notName] at h)
/-- a comprehension that is stored on its line -/
def swC (sc : Scope) (y : Str) (py : Pos) (scope : Scope) (pos : Pos) : Bool :=
  decide (sc.names.lookup y = some .local) && (py.line == pos.line) && !(scope.names.any fun (n, k) => n == y && (k == .local || k == .cell))
theorem sw_name {elt : Expr} {gs : List Comprehension} {scope : Scope} {pos py : Pos} {y : Str} {l : Nat} {env : PySem.Env} (hk : env.scope.kind = .function) : swapsWith (.ListComp elt gs scope pos) (some (.Name y py)) l env = pure (swC env.scope y py scope pos) := by
  have hb : env.blockKind = .function := by unfold Env.blockKind; rw [hk]; rfl
  unfold swapsWith swC
  simp only [hb, Expr.pos, Env.kindOf]
  have : (env.scope.names.lookup y == some NameKind.local) = decide (env.scope.names.lookup y = some .local) := by
    cases h : decide (env.scope.names.lookup y = some .local)
    · have := of_decide_eq_false h
      simp [this]
    · have := of_decide_eq_true h
      simp [this]
  simp only [this]
  rfl
def notTup : Expr → Bool
  | .Tuple _ _ _ => false
  | .List _ _ => false
  | _ => true
theorem st_plain {t e : Expr} {env : PySem.Env} (h : notTup t = true) : swappedStores [t] e env = pure none := by
  cases t <;> first | (cases e <;> rfl) | simp [notTup] at h
def isTuple : Expr → Bool
  | .Tuple _ _ _ => true
  | _ => false
theorem st_other {t e : Expr} {env : PySem.Env} (h : isTuple e = false) : swappedStores [t] e env = pure none := by
  cases e <;> first | (cases t <;> rfl) | simp [isTuple] at h
/-- the names that are stored swapped -/
def parC (kd : Str → Option NameKind) (ts vs : List Expr) : Option (Option (List Str)) :=
  if !(ts.length == 2 || ts.length == 3) || vs.length != ts.length || ScopeKind.function != ScopeKind.function then some none else
  if vs.any fun | .Starred .. => true | _ => false then some none else
  let line := (ts.head?.map (·.pos.line)).getD 0
  let names := ts.filterMap fun
    | .Name id pos => if kd id == some .local && pos.line == line then some id else none
    | _ => none
  if names.length != ts.length || names.eraseDups.length != names.length then some none else
  if vs.all (foldedForSure 8) then some none else
  if vs.all (constantsAlone 8) then none else some (some names)
theorem st_par {ts vs : List Expr} {k k2 : Nat} {p p2 : Pos} {env : PySem.Env} {r : Option (List Str)} (hk : env.scope.kind = .function) (h : parC env.kindOf ts vs = some r) : swappedStores [.Tuple ts k p] (.Tuple vs k2 p2) env = pure r := by
  have hb : env.blockKind = .function := by unfold Env.blockKind; rw [hk]; rfl
  unfold parC at h
  unfold swappedStores
  rw [hb]
  split at h
  · rename_i c1
    cases h
    dsimp only
    rw [if_pos c1]
  rename_i c1
  dsimp only
  rw [if_neg c1]
  dsimp only at h
  split at h
  · rename_i c2; cases h; exact if_pos c2
  rename_i c2
  refine (if_neg c2).trans ?_
  split at h
  · rename_i c3; cases h; exact if_pos c3
  rename_i c3
  refine (if_neg c3).trans ?_
  split at h
  · rename_i c4; cases h; exact if_pos c4
  rename_i c4
  refine (if_neg c4).trans ?_
  split at h
  · cases h
  rename_i c5
  cases h
  exact if_neg c5
def notSet : Expr → Bool
  | .Set _ _ _ => false
  | _ => true
theorem it_plain {e : Expr} {env : PySem.Env} {x : Value} (h : notSet e = true) : foldedSetIterable e env x = pure x := by
  cases e <;> first | rfl | simp [notSet] at h
theorem mk_plain {op : CmpOp} {e : Expr} (h : notSet e = true) : behindInMarks op e = false := by
  cases e <;> first | rfl | simp [notSet] at h
theorem mks_plain {o1 o2 : CmpOp} {e1 e2 : Expr} (h : notSet e2 = true) : lastMarks [o1, o2] [e1, e2] = false := mk_plain h
def notSlice : Expr → Bool
  | .Slice _ _ _ _ => false
  | _ => true
theorem ix_plain {e : Expr} (h : notSlice e = true) : PlainIx e := by
  cases e <;> first | exact fun _ _ => rfl | simp [notSlice] at h
theorem sub_plain {a b : Expr} {pos : Pos} {env : PySem.Env} (h : notSlice b = true) : ∀ v, assign (.Subscript a b pos) env v = (do
      let ov ← holding [v] (eval a env)
      let iv ← holding [v, ov] (eval b env)
      standAt pos
      holding [v, ov, iv] (setItem ov iv v)
      release [v, ov, iv] []) := by
  cases b <;> first | exact fun _ => rfl | simp [notSlice] at h
def plainTest : Expr → Bool
  | .UnaryOp .Not _ _ => false
  | .BoolOp _ _ _ => false
  | .IfExp _ _ _ _ => false
  | .Compare _ _ _ _ => false
  | _ => true
theorem test_plain {a : Expr} {env : PySem.Env} (h : plainTest a = true) : ∀ whole, isTrue a env whole = (do let v ← whole; standAt a.pos; holding [v] (truthy v)) := by
  cases a <;> first
    | exact fun _ => rfl
    | (rename_i op _ _; cases op <;> first | exact fun _ => rfl | simp [plainTest] at h)
    | simp [plainTest] at h
theorem as_cons {e : Expr} {es : List Expr} {env : PySem.Env} (h : noStar e = true) : assignEach (e :: es) env = (false, assign e env) :: assignEach es env := by
  cases e <;> first | rfl | simp [noStar] at h
theorem as_map {e : Expr} {es : List Expr} {env : PySem.Env} (h : noStar e = true) : (assignEach (e :: es) env).map (·.2) = assign e env :: (assignEach es env).map (·.2) := by rw [as_cons h]; rfl
theorem as_len {env : PySem.Env} : ∀ {es : List Expr}, es.all noStar = true → (assignEach es env).length = es.length ∧ (assignEach es env).findIdx? (·.1) = none
  | [], _ => ⟨rfl, rfl⟩
  | e :: es, h => by
    simp only [List.all_cons, Bool.and_eq_true] at h
    obtain ⟨a, b⟩ := as_len (env := env) h.2
    rw [as_cons h.1]
    exact ⟨by simp [a], by simp [List.findIdx?_cons, b]⟩
theorem meth_eq {o : Expr} {m : Str} {apos pos : Pos} {as : List Expr} {env : PySem.Env} (hb : notCall o = true) (hs : as.all noStar = true) (hn : as.length < 30) (hl : (apos.endLine == pos.line) = true) : eval (.Call (.Attribute o m apos) as [] pos) env = (do
      let ov ← eval o env
      standAt apos.atName
      let (f, first) ← holding [ov] (getMethod ov m (do return (← importBound o env).getD true))
      callWith pos f first (backTo pos (starEach as env)) (backToKw pos (keywordEach [] env))) := by
  have hf : methodCallForm (as.length + ([] : List Keyword).length) (backTo pos (starEach as env)) (backToKw pos (keywordEach [] env)) = true := by
    unfold methodCallForm
    rw [star_all hs]
    simp [keywordEach, backToKw]
    exact hn
  show (do let ov ← attributeBase o m env (eval o env); standAt apos.atName; methodCall o m apos pos env ov (as.length + ([] : List Keyword).length) (backTo pos (starEach as env)) (backToKw pos (keywordEach [] env))) = _
  rw [attr_plain hb]
  unfold methodCall calleeOf methodCallPos
  simp only [hf, if_true, hl, Bool.not_true, Bool.false_or]
  rfl
theorem few_plain {e : Expr} {p : Pos} {env : PySem.Env} (h : noStar e = true) : ((backTo p (starEach [e] env)).all (fun x => !x.1) && (backToKw p (keywordEach [] env)).all (fun x => x.1.isSome) && decide (([e] : List Expr).length + ([] : List Keyword).length + (if ([] : List Keyword).isEmpty then 0 else 1) < 30)) = true := by
  rw [star_all (by simp [h])]
  rfl
def kwNames (kws : List Keyword) : List Str := kws.map fun k => k.arg.getD Str.empty
theorem kwNames_ok : ∀ {kws : List Keyword}, kws.all (fun k => k.arg.isSome) = true → kws.map (·.arg) = (kwNames kws).map some
  | [], _ => rfl
  | k :: kws, h => by
    simp only [List.all_cons, Bool.and_eq_true] at h
    obtain ⟨n, hn⟩ := Option.isSome_iff_exists.mp h.1
    have := kwNames_ok h.2
    simp only [kwNames, List.map_cons, hn, Option.getD_some] at this ⊢
    rw [this]
theorem few2 {e f : Expr} {p : Pos} {env : PySem.Env} (h : noStar e = true) (h2 : noStar f = true) : ((backTo p (starEach [e, f] env)).all (fun x => !x.1) && (backToKw p (keywordEach [] env)).all (fun x => x.1.isSome) && decide (([e, f] : List Expr).length + ([] : List Keyword).length + (if ([] : List Keyword).isEmpty then 0 else 1) < 30)) = true := by
  rw [star_all (by simp [h, h2])]
  rfl
end Rx

set_option Elab.async false
set_option autoImplicit false
set_option linter.all false
set_option maxRecDepth 100000
set_option maxHeartbeats 2000000
/-! Rx20: a look whether a text is what a term says; such a text does what the evaluator says. -/
namespace Rx
open PySem PySem.Spec PyProof.Rows L2
/-- the names of a block: by slot; its scope; which may be stored -/
structure Cc where
  N : List Str
  sc : Scope
  st : Str → Bool
def Cc.blk (cc : Cc) (scope : Scope) : Cc := ⟨cc.N, relS scope cc.sc, fun x => match scope.names.lookup x with
  | some .local => true
  | some .cell => true
  | _ => false⟩
/-- the module's names -/
structure Tb where
  fns : List (Str × Nat × Nat)
  cls : List (Str × Nat × Nat × Nat)
  mth : List (Nat × Str × Nat × Nat)
  con : List (Str × Nat)
  blt : List Str
  fld : List Str
  kws : List (Str × Nat × List Str)
  kds : List (Str × Nat)
structure Sta (c : Cfg) (tb : Tb) (j : Nat) (X' : Cx) (cc : Cc) : Prop where
  K : X'.K = c.g.K
  P : X'.prog = c.g.P
  w : X'.w = c.g.w
  calm : X'.calm = true
  N : X'.N = cc.N
  nd : cc.N.Nodup
  sc : X'.env.scope = cc.sc
  kind : cc.sc.kind = .function
  st : ∀ x, cc.st x = true → Loc X'.env.scope x ∧ (X'.fn x = true ∨ X'.env.scope.names.lookup x = some .local)
  room : Room (j + 1) X'.A
  fns : ∀ x i np, (x, i, np) ∈ tb.fns → ∃ f, X'.mg x = some (.ref f) ∧ FnF c X' j i np f
  cls : ∀ x k i np, (x, k, i, np) ∈ tb.cls → ∃ f, X'.mg x = some (.ref (c.cl k)) ∧ Mk X'.K (c.cl k) f ∧ FnF c X' j i np f
  mth : ∀ k m i np, (k, m, i, np) ∈ tb.mth → ∃ f, Cls X'.K (c.cl k) ∧ Meth X'.K (c.cl k) m f ∧ FnF c X' j i np f
  con : ∀ x i, (x, i) ∈ tb.con → ∃ d v u, c.cs i = some d ∧ X'.mg x = some u ∧ RelV v u ∧ ∀ φ H, Rep c.g φ H v d
  blt : ∀ x, x ∈ tb.blt → X'.mg x = none
  fld : ∀ f, f ∈ tb.fld → ∀ k, Cls X'.K (c.cl k) ∧ NoAttr X'.K (c.cl k) f
  kws : ∀ x i ps, (x, i, ps) ∈ tb.kws → ∃ f, X'.mg x = some (.ref f) ∧ KwF c X' j i ps f
  kds : ∀ x i, (x, i) ∈ tb.kds → ∃ a rows, c.cs i = some (.tup rows) ∧ X'.mg x = some (.ref a) ∧ Kd c.g X'.K X'.w a rows
section
variable {c : Cfg} {tb : Tb} {j : Nat} {X' : Cx} {cc : Cc}
theorem Sta.hu (s : Sta c tb j X' cc) : X'.A.units + 200 < cLine := by have := s.room.un; omega
theorem Sta.xnd (s : Sta c tb j X' cc) : X'.N.Nodup := by rw [s.N]; exact s.nd
theorem Sta.xkind (s : Sta c tb j X' cc) : X'.env.scope.kind = .function := by rw [s.sc]; exact s.kind
def ownOf (N : List Str) (ow : List Nat) : List (Str × Nat) := ow.map fun i => ((N[i]?).getD Str.empty, i)
theorem ownOf_snd (N : List Str) (ow : List Nat) : (ownOf N ow).map (·.2) = ow := by simp [ownOf, Function.comp_def]
theorem Sta.blk (s : Sta c tb j X' cc) {scope : Scope} {own : List (Str × Nat)} (ok : BlkOk X'.N X'.env.scope scope own) (s0 : Shared) (H : Hp) (C : Addr) (cl : List (Str × Addr)) (fp : List Addr) :
    Sta c tb j (X'.blk s0 H scope (compEnvC scope cl C X'.env) fp) (cc.blk scope) where
  K := s.K
  P := s.P
  w := s.w
  calm := s.calm
  N := s.N
  nd := s.nd
  sc := by
    show relS scope X'.env.scope = relS scope cc.sc
    rw [s.sc]
  kind := ok.kind
  st := fun x h => by
    have key : ∀ k, k ≠ NameKind.free → scope.names.lookup x = some k → (relS scope X'.env.scope).names.lookup x = some k := fun k hk e => lookup_relS_keep hk e
    have h : (match scope.names.lookup x with | some .local => true | some .cell => true | _ => false) = true := h
    split at h
    · rename_i e
      have := key _ (by decide) e
      exact ⟨.inl this, .inr this⟩
    · rename_i e
      have := key _ (by decide) e
      refine ⟨.inr this, .inl ?_⟩
      show (scope.names.lookup x == some NameKind.cell) = true
      rw [e]; rfl
    · cases h
  room := s.room
  fns := fun x i np h => let ⟨f, a, F⟩ := s.fns x i np h; ⟨f, a, F.gv, F.kp, F.ok⟩
  cls := fun x k i np h => let ⟨f, a, b, F⟩ := s.cls x k i np h; ⟨f, a, b, F.gv, F.kp, F.ok⟩
  mth := fun k m i np h => let ⟨f, a, b, F⟩ := s.mth k m i np h; ⟨f, a, b, F.gv, F.kp, F.ok⟩
  con := s.con
  blt := s.blt
  fld := s.fld
  kws := fun x i ps h => let ⟨f, a, F⟩ := s.kws x i ps h; ⟨f, a, F.kp, F.ok⟩
  kds := s.kds
end
/-! ### the looks -/
def glB (cc : Cc) (x : Str) : Bool := decide (cc.sc.names.lookup x = some .globalImplicit) && !(x == ("__debug__" : Str))
def bltB (tb : Tb) (cc : Cc) (x : Str) : Bool := glB cc x && decide (x ∈ tb.blt)
def visB (cc : Cc) (i : Nat) (x : Str) : Bool := decide (cc.N[i]? = some x) && (match cc.sc.names.lookup x with
  | some .local => true
  | some .cell => true
  | some .free => true
  | _ => false) && !(x == ("__debug__" : Str)) && !(x == ("__classdict__" : Str))
def bi? : Bi → Option (Str × Value)
  | .len => some ("len", .builtin "len")
  | .tuple => some ("tuple", .type "tuple")
  | .sum => some ("sum", .builtin "sum")
  | .all => some ("all", .builtin "all")
  | .any => some ("any", .builtin "any")
  | .abs => some ("abs", .builtin "abs")
  | .int => some ("int", .type "int")
  | .min2 => some ("min", .builtin "min")
  | .max2 => some ("max", .builtin "max")
  | .repr => some ("repr", .builtin "repr")
  | _ => none
theorem bi_ok {b : Bi} {x : Str} {f : Value} (h : bi? b = some (x, f)) : BiV b f ∧ bootBuiltins x = some f ∧ x ≠ "__name__" ∧ (x == ("__debug__" : Str)) = false := by
  cases b <;> simp only [bi?, Option.some.injEq, Prod.mk.injEq, reduceCtorEq] at h <;> obtain ⟨rfl, rfl⟩ := h <;> exact ⟨by constructor, by decide +kernel, by decide +kernel, by decide +kernel⟩
def ty? : Ty → Option Str
  | .int => some "int"
  | .bool => some "bool"
  | .str => some "str"
  | .list => some "list"
  | .tuple => some "tuple"
  | .dict => some "dict"
  | .non => none
theorem ty_ok {t : Ty} {x : Str} (h : ty? t = some x) : bootBuiltins x = some (.type t.nm) ∧ x ≠ "__name__" ∧ (x == ("__debug__" : Str)) = false ∧ t ≠ .non := by
  cases t <;> simp only [ty?, Option.some.injEq, reduceCtorEq] at h <;> subst h <;> exact ⟨by decide +kernel, by decide +kernel, by decide +kernel, by decide⟩
def tyB (tb : Tb) (cc : Cc) (t : Ty) : Expr → Bool
  | .Name x _ => decide (ty? t = some x) && bltB tb cc x
  | _ => false
def tysB (tb : Tb) (cc : Cc) : List Ty → List Expr → Bool
  | [], [] => true
  | t :: l, e :: es => tyB tb cc t e && tysB tb cc l es
  | _, _ => false
def litB : D → Expr → Bool
  | .int i, .Constant (.int k) _ _ => decide (i = k)
  | .bl i, .Constant (.bool k) _ _ => decide (i = k)
  | .str i, .Constant (.str k) _ _ => decide (i = k)
  | .non, .Constant .none _ _ => true
  | _, _ => false
def opB (op : BOp) (o : Operator) : Bool := decide (o = op.op)
section
variable (tb : Tb)
mutual
def chkP : Pt → Cc → Expr → Bool
  | .nm i, cc, e => match e with
    | .Name x _ => decide (cc.N[i]? = some x) && cc.st x
    | _ => false
  | .tup l, cc, e => match e with
    | .Tuple es _ _ => chkPs l cc es
    | _ => false
def chkPs : List Pt → Cc → List Expr → Bool
  | [], _, [] => true
  | p :: l, cc, e :: es => noStar e && chkP p cc e && chkPs l cc es
  | _, _, _ => false
end
mutual
def chkX : X → Cc → Expr → Bool
  | .var i, cc, e => match e with
    | .Name x _ => visB cc i x
    | _ => false
  | .lit d, _, e => litB d e
  | .con i, cc, e => match e with
    | .Name x _ => glB cc x && decide ((x, i) ∈ tb.con)
    | _ => false
  | .tup xs, cc, e => match e with
    | .Tuple es _ _ => chkXs xs cc es
    | _ => false
  | .bin op a b, cc, e => match e with
    | .BinOp l o r _ => decide (o = op.op) && chkX a cc l && chkX b cc r
    | _ => false
  | .neg a, cc, e => match e with
    | .UnaryOp o l _ => decide (o = .USub) && chkX a cc l
    | _ => false
  | .not a, cc, e => match e with
    | .UnaryOp o l _ => decide (o = .Not) && chkX a cc l
    | _ => false
  | .cmp op a b, cc, e => match e with
    | .Compare l [o] [r] _ => decide (o = op.op) && chkX a cc l && chkX b cc r && notSet r
    | _ => false
  | .chain o1 o2 a b d, cc, e => match e with
    | .Compare l [p1, p2] [r, s] _ => decide (p1 = o1.op) && decide (p2 = o2.op) && chkX a cc l && chkX b cc r && chkX d cc s && notSet s
    | _ => false
  | .and xs, cc, e => match e with
    | .BoolOp o es _ => decide (o = .And) && chkXs xs cc es && !xs.isEmpty
    | _ => false
  | .or xs, cc, e => match e with
    | .BoolOp o es _ => decide (o = .Or) && chkXs xs cc es && !xs.isEmpty
    | _ => false
  | .ite t a b, cc, e => match e with
    | .IfExp s l r _ => chkX t cc s && chkX a cc l && chkX b cc r
    | _ => false
  | .idx a i, cc, e => match e with
    | .Subscript l r _ => notSlice r && chkX a cc l && chkX i cc r
    | _ => false
  | .slice a lo hi, cc, e => match e with
    | .Subscript l (.Slice el eh none _) _ => chkX a cc l && chkO lo cc el && chkO hi cc eh
    | _ => false
  | .attr a f, cc, e => match e with
    | .Attribute l g _ => decide (g = f) && decide (f ∈ tb.fld) && notCall l && chkX a cc l
    | _ => false
  | .call f xs, cc, e => match e with
    | .Call (.Name x _) es kws _ => if kws.isEmpty then glB cc x && decide ((x, f, xs.length) ∈ tb.fns) && chkXs xs cc es
      else es.isEmpty && glB cc x && decide ((x, f, kwNames kws) ∈ tb.kws) && (kws.all fun k => k.arg.isSome) && chkXs xs cc (kws.map (·.value))
    | _ => false
  | .meth a k f m xs, cc, e => match e with
    | .Call (.Attribute o n ap) es [] p => decide (n = m) && decide ((k, m, f, xs.length + 1) ∈ tb.mth) && notCall o && (ap.endLine == p.line) && decide (xs.length < 30) && chkX a cc o && chkXs xs cc es
    | _ => false
  | .new k f xs, cc, e => match e with
    | .Call (.Name x _) es [] _ => glB cc x && decide ((x, k, f, xs.length + 1) ∈ tb.cls) && chkXs xs cc es
    | _ => false
  | .bi b xs, cc, e => match e with
    | .Call (.Name x _) es [] _ => match b with
      | .isa tys => match es, xs with
        | [a, t], [xa] => bltB tb cc x && decide (x = "isinstance") && noStar a && chkX xa cc a && (match t with
          | .Name _ _ => (match tys with | [t1] => tyB tb cc t1 t | _ => false)
          | .Tuple ts _ _ => tysB tb cc tys ts && decide (tys.length ≤ 1000)
          | _ => false)
        | _, _ => false
      | .lenset => match es, xs with
        | [.Call (.Name y _) [a] [] _], [xa] => bltB tb cc x && decide (x = "len") && bltB tb cc y && decide (y = "set") && noStar a && chkX xa cc a
        | _, _ => false
      | b => bltB tb cc x && (match bi? b with | some q => decide (q.1 = x) | none => false) && chkXs xs cc es && !xs.isEmpty
    | _ => false
  | .pop a xs, cc, e => match e with
    | .Call (.Attribute o n ap) [] [] p => decide (n = "pop") && xs.isEmpty && notCall o && (ap.endLine == p.line) && chkX a cc o
    | _ => false
  | .val k, cc, e => chkC k cc e
  | .own k, cc, e => chkC k cc e
  | .tupr xs, cc, e => match e with
    | .Call (.Name x _) [.Call (.Name y _) es [] _] [] _ => bltB tb cc x && decide (x = "tuple") && bltB tb cc y && decide (y = "range") && (match xs, es with
      | [xa], [a] => noStar a && chkX xa cc a
      | _, _ => false)
    | _ => false
  | .dnew, _, e => match e with
    | .Dict [] [] _ => true
    | _ => false
  | .dix a k, cc, e => match e with
    | .Subscript l r _ => notSlice r && chkX a cc l && chkX k cc r
    | _ => false
  | .din neg k a, cc, e => match e with
    | .Compare l [o] [r] _ => decide (o = if neg then CmpOp.NotIn else CmpOp.In) && chkX k cc l && chkX a cc r && notSet r
    | _ => false
  | .dsetd a k v, cc, e => match e with
    | .Call (.Attribute o n ap) [l, r] [] p => decide (n = "setdefault") && notCall o && noStar l && noStar r && (ap.endLine == p.line) && chkX a cc o && chkX k cc l && chkX v cc r
    | _ => false
  | .kget i k z, cc, e => match e with
    | .Call (.Attribute o n ap) [l, r] [] p => (match o with
      | .Name x _ => glB cc x && decide ((x, i) ∈ tb.kds)
      | _ => false) && decide (n = "get") && noStar l && noStar r && (ap.endLine == p.line) && chkX k cc l && chkX z cc r
    | _ => false
  | .callv _ _, _, _ => false
  | .rev a, cc, e => match e with
    | .Subscript l (.Slice none none (some (.UnaryOp .USub (.Constant (.int 1) _ _) _)) _) _ => chkX a cc l
    | _ => false
  | .dlen _, _, _ => false
  | .dget _ _ _, _, _ => false
  | .dcomp ow k v p it fs, cc, e => match e with
    | .DictComp kx vx [⟨tg, iter, ifs, 0⟩] scope _ => blkC cc.N cc.sc scope (ownOf cc.N ow) && (p.slots.all fun i => decide (i ∈ ow)) && chkI it cc tg iter && chkP p (cc.blk scope) tg && chkF fs (cc.blk scope) ifs && chkX k (cc.blk scope) kx && chkX v (cc.blk scope) vx
    | _ => false
def chkXs : List X → Cc → List Expr → Bool
  | [], _, es => es.isEmpty
  | x :: xs, cc, es => match es with
    | e :: es => noStar e && chkX x cc e && chkXs xs cc es
    | [] => false
def chkO : List X → Cc → Option Expr → Bool
  | [], _, o => o.isNone
  | x :: xs, cc, o => match o with
    | some e => xs.isEmpty && chkX x cc e
    | none => false
def chkF : List X → Cc → List Expr → Bool
  | [], _, es => es.isEmpty
  | x :: xs, cc, es => match es with
    | [e] => xs.isEmpty && chkX x cc e
    | _ => false
def chkI : I → Cc → Expr → Expr → Bool
  | .src x, cc, _, e => notSet e && chkX x cc e
  | .rng xs, cc, _, e => match e with
    | .Call (.Name x _) es [] _ => bltB tb cc x && decide (x = "range") && chkXs xs cc es && (decide (xs.length = 1) || decide (xs.length = 2))
    | _ => false
  | .enum a, cc, tg, e => match e with
    | .Call (.Name x _) [l] [] _ => isTuple tg && bltB tb cc x && decide (x = "enumerate") && noStar l && chkX a cc l
    | _ => false
  | .zip xs, cc, tg, e => match e with
    | .Call (.Name x _) es [] _ => isTuple tg && bltB tb cc x && decide (x = "zip") && chkXs xs cc es && (decide (xs.length = 2) || decide (xs.length = 3))
    | _ => false
def chkC : C → Cc → Expr → Bool
  | .disp xs, cc, e => match e with
    | .List es _ => chkXs xs cc es
    | _ => false
  | .comp ow el p it fs, cc, e => match e with
    | .ListComp elt [⟨tg, iter, ifs, 0⟩] scope _ => blkC cc.N cc.sc scope (ownOf cc.N ow) && (p.slots.all fun i => decide (i ∈ ow)) && chkI it cc tg iter && chkP p (cc.blk scope) tg && chkF fs (cc.blk scope) ifs && chkX el (cc.blk scope) elt
    | _ => false
  | .comp2 ow el p it fs ow1 p1 it1 fs1, cc, e => match e with
    | .ListComp elt [⟨tg, iter, ifs, 0⟩, ⟨tg1, iter1, ifs1, 0⟩] scope _ => blkC cc.N cc.sc scope (ownOf cc.N ow) && (p.slots.all fun i => decide (i ∈ ow)) && (p1.slots.all fun i => decide (i ∈ ow1)) && (ow1.all fun i => decide (i ∈ ow)) &&
        chkI it cc tg iter && chkP p (cc.blk scope) tg && chkF fs (cc.blk scope) ifs && chkI it1 (cc.blk scope) tg1 iter1 && chkP p1 (cc.blk scope) tg1 && chkF fs1 (cc.blk scope) ifs1 && chkX el (cc.blk scope) elt
    | _ => false
  | .list a, cc, e => match e with
    | .Call (.Name x _) [l] [] _ => bltB tb cc x && decide (x = "list") && noStar l && chkX a cc l
    | _ => false
  | .revl a, cc, e => match e with
    | .Subscript l (.Slice none none (some (.UnaryOp .USub (.Constant (.int 1) _ _) _)) _) _ => chkX a cc l
    | _ => false
  | .keys a, cc, e => match e with
    | .Call (.Name x _) [l] [] _ => bltB tb cc x && decide (x = "list") && noStar l && chkX a cc l
    | _ => false
  | .sorted a st, cc, e => match e with
    | .Call (.Name x _) [l] [] _ => (match st with
      | false => bltB tb cc x && decide (x = "sorted") && noStar l && chkX a cc l
      | true => match l with
        | .Call (.Name y _) [m] [] _ => bltB tb cc x && decide (x = "sorted") && bltB tb cc y && decide (y = "set") && noStar m && chkX a cc m
        | _ => false)
    | _ => false
end
end
section
variable {c : Cfg} {tb : Tb} {j : Nat}
theorem glB_ok {X' : Cx} {cc : Cc} {x : Str} (s : Sta c tb j X' cc) (h : glB cc x = true) : Gl X' x ∧ (x == ("__debug__" : Str)) = false := by
  simp only [glB, Bool.and_eq_true, decide_eq_true_eq, Bool.not_eq_true'] at h
  exact ⟨by show X'.env.scope.names.lookup x = _; rw [s.sc]; exact h.1, h.2⟩
theorem bltB_ok {X' : Cx} {cc : Cc} {x : Str} (s : Sta c tb j X' cc) (h : bltB tb cc x = true) : Blt X' x ∧ (x == ("__debug__" : Str)) = false := by
  simp only [bltB, Bool.and_eq_true, decide_eq_true_eq] at h
  obtain ⟨a, b⟩ := glB_ok s h.1
  exact ⟨⟨a, s.blt x h.2⟩, b⟩
theorem tyB_ok {X' : Cx} {cc : Cc} {t : Ty} {e : Expr} (s : Sta c tb j X' cc) (h : tyB tb cc t e = true) : ∃ x p, e = .Name x p ∧ Blt X' x ∧ bootBuiltins x = some (.type t.nm) ∧ x ≠ "__name__" ∧ (x == ("__debug__" : Str)) = false ∧ t ≠ .non := by
  unfold tyB at h
  split at h
  · rename_i x p
    simp only [Bool.and_eq_true, decide_eq_true_eq] at h
    obtain ⟨a, b, d, f⟩ := ty_ok h.1
    exact ⟨x, p, rfl, (bltB_ok s h.2).1, a, b, d, f⟩
  · cases h
theorem tysB_ok {X' : Cx} {cc : Cc} (s : Sta c tb j X' cc) : ∀ {tys : List Ty} {es : List Expr}, tysB tb cc tys es = true → (∀ u ∈ tys, u ≠ .non) ∧ es.all noStar = true ∧ ∃ t, PA X' es t ∧ ∀ σ H (Q : List V → Hp → Prop), Q (tys.map fun u => V.ty u.nm) H → t σ H Q
  | [], [], _ => ⟨fun u h => by simp at h, rfl, _, pa_nil, fun σ H Q q => q⟩
  | [], _ :: _, h => by simp [tysB] at h
  | _ :: _, [], h => by simp [tysB] at h
  | t :: l, e :: es, h => by
    simp only [tysB, Bool.and_eq_true] at h
    obtain ⟨x, p, rfl, B, h1, h2, h3, h4⟩ := tyB_ok s h.1
    obtain ⟨a, b, tt, d, f⟩ := tysB_ok s h.2
    refine ⟨fun u hu => ?_, by rw [List.all_cons, b]; rfl, _, pa_cons (pe_bltn (v := .ty t.nm) B.gl B.no h1 rfl h2 h3) d (star_cons rfl), fun σ H Q q => f σ H _ q⟩
    rcases List.mem_cons.mp hu with rfl | hu
    · exact h4
    · exact a u hu
mutual
theorem okP : ∀ (p : Pt) (cc : Cc) (e : Expr), chkP p cc e = true → ∀ X', Sta c tb j X' cc → PG X' e (tG c p)
  | .nm i, cc, e, h, X', s => by
    simp only [chkP] at h
    split at h
    · simp only [Bool.and_eq_true, decide_eq_true_eq] at h
      obtain ⟨a, b⟩ := s.st _ h.2
      exact snd_nm s.xnd (by rw [s.N]; exact h.1) a b
    · cases h
  | .tup l, cc, e, h, X', s => by
    simp only [chkP] at h
    split at h
    · obtain ⟨a, b, d⟩ := okPs l cc _ h X' s
      obtain ⟨q1, q2⟩ := as_len (env := X'.env) b
      exact snd_gtup s.K s.calm a (q1.trans d) q2
    · cases h
theorem okPs : ∀ (l : List Pt) (cc : Cc) (es : List Expr), chkPs l cc es = true → ∀ X', Sta c tb j X' cc → PGs X' es (tGs c l) ∧ es.all noStar = true ∧ es.length = l.length
  | [], cc, [], h, X', s => ⟨snd_gnil, rfl, rfl⟩
  | [], cc, _ :: _, h, X', s => by simp [chkPs] at h
  | _ :: _, cc, [], h, X', s => by simp [chkPs] at h
  | p :: l, cc, e :: es, h, X', s => by
    simp only [chkPs, Bool.and_eq_true] at h
    obtain ⟨a, b, d⟩ := okPs l cc es h.2 X' s
    exact ⟨snd_gcons (okP p cc e h.1.2 X' s) a (as_map h.1.1), by simp [h.1.1]; simpa using b, by simp [d]⟩
end
/-- what is known of a list of terms -/
structure OkL (c : Cfg) (X' : Cx) (xs : List X) (es : List Expr) : Prop where
  pa : PA X' es (tXs c xs)
  star : es.all noStar = true
  len : es.length = xs.length
  pk : ∀ kws : List Keyword, kws.map (·.value) = es → PK X' kws (tXs c xs)
  and_ : xs ≠ [] → ∀ pos, PE X' (.BoolOp .And es pos) (tXand c xs) ∧ PW X' (.BoolOp .And es pos) (tXandT c xs)
  or_ : xs ≠ [] → ∀ pos, PE X' (.BoolOp .Or es pos) (tXor c xs) ∧ PW X' (.BoolOp .Or es pos) (tXorT c xs)
/-- .. of a term -/
structure OkX (c : Cfg) (X' : Cx) (x : X) (e : Expr) : Prop where
  pe : PE X' e (tX c x)
  pt : PT X' e (tXt c x)
/-- the place of a comprehension on its line -/
def swX (kd : Scope) (y : Str) (py : Pos) : Expr → Bool
  | .ListComp _ _ scope pos => swC kd y py scope pos
  | _ => false
structure OkC (c : Cfg) (X' : Cx) (k : C) (e : Expr) : Prop where
  pe : PE X' e (tCx c k)
  tst : plainTest e = true
  sw : ∀ (spos py : Pos) (y : Str) (i : Nat), X'.N[i]? = some y → X'.env.scope.names.lookup y = some .local → swX X'.env.scope y py e = true → PS X' (.Assign [.Name y py] e spos) (tS c (.asg (.nm i) (.val k))) ∧ PS X' (.Assign [.Name y py] e spos) (tS c (.asg (.nm i) (.own k)))
theorem OkX.of {X' : Cx} {cc : Cc} {x : X} {e : Expr} (s : Sta c tb j X' cc) (h : PE X' e (tX c x)) (he : plainTest e = true) : OkX c X' x e := ⟨h, snd_truth s.K h (test_plain he)⟩
theorem tXand_of {X' : Cx} {xs : List X} {e : Expr} (h : PE X' e (tXand c xs)) : PE X' e (tX c (.and xs)) := PE.imp h fun σ H Q ⟨φ, env, S, d, S', re, rs, ev, k⟩ => ⟨φ, env, S, d, S', re, rs, by simpa only [evE] using ev, k⟩
theorem tXor_of {X' : Cx} {xs : List X} {e : Expr} (h : PE X' e (tXor c xs)) : PE X' e (tX c (.or xs)) := PE.imp h fun σ H Q ⟨φ, env, S, d, S', re, rs, ev, k⟩ => ⟨φ, env, S, d, S', re, rs, by simpa only [evE] using ev, k⟩
theorem tXandT_of {X' : Cx} {xs : List X} {e : Expr} (h : PT X' e (tXandT c xs)) : PT X' e (tXt c (.and xs)) := PT.imp h fun σ H Q ⟨φ, env, S, d, S', t, re, rs, ev, ht, k⟩ => ⟨φ, env, S, d, S', t, re, rs, by simpa only [evE] using ev, ht, k⟩
theorem tXorT_of {X' : Cx} {xs : List X} {e : Expr} (h : PT X' e (tXorT c xs)) : PT X' e (tXt c (.or xs)) := PT.imp h fun σ H Q ⟨φ, env, S, d, S', t, re, rs, ev, ht, k⟩ => ⟨φ, env, S, d, S', t, re, rs, by simpa only [evE] using ev, ht, k⟩
theorem lit_ok {X' : Cx} {cc : Cc} {d : D} {e : Expr} (s : Sta c tb j X' cc) (h : litB d e = true) : OkX c X' (.lit d) e := by
  unfold litB at h
  split at h
  · simp only [decide_eq_true_eq] at h; subst h
    exact OkX.of s (snd_at pe_int fun φ H => .int _) rfl
  · simp only [decide_eq_true_eq] at h; subst h
    exact OkX.of s (snd_at pe_bl fun φ H => .bl _) rfl
  · simp only [decide_eq_true_eq] at h; subst h
    exact OkX.of s (snd_at pe_str fun φ H => .str _) rfl
  · exact OkX.of s (snd_at pe_non fun φ H => .non) rfl
  · cases h
end
end Rx

set_option Elab.async false
set_option autoImplicit false
set_option linter.all false
set_option maxRecDepth 100000
set_option maxHeartbeats 4000000
/-! Rx21: terms that a look has let do what the evaluator says. -/
namespace Rx
open PySem PySem.Spec PyProof.Rows L2
section
variable {c : Cfg} {tb : Tb} {j : Nat}
/-- one argument -/
theorem okL1 {X' : Cx} {xs : List X} {e : Expr} (L : OkL c X' xs [e]) : ∃ x, xs = [x] := by
  have := L.len
  match xs, this with
  | [x], _ => exact ⟨x, rfl⟩
theorem meth_of {X' : Cx} {cc : Cc} {xo : X} {k i np : Nat} {m : Str} {xs : List X} {o : Expr} {es : List Expr} {apos pos : Pos} (s : Sta c tb j X' cc) (hm : (k, m, i, xs.length + 1) ∈ tb.mth) (hc : notCall o = true) (hl : (apos.endLine == pos.line) = true) (hn : xs.length < 30) (O : OkX c X' xo o) (L : OkL c X' xs es) :
    PE X' (.Call (.Attribute o m apos) es [] pos) (tX c (.meth xo k i m xs)) := by
  obtain ⟨f, C, M, F⟩ := s.mth _ _ _ _ hm
  have hl2 := L.len
  have he := meth_eq (m := m) (apos := apos) (pos := pos) (env := X'.env) hc L.star (by omega) hl
  cases es with
  | nil =>
    cases xs with
    | nil => exact snd_meth0 C M F (s.room.mono (Nat.le_succ _)) O.pe he
    | cons _ _ => simp at hl2
  | cons e es =>
    have hs := L.star
    simp only [List.all_cons, Bool.and_eq_true] at hs
    exact snd_meth C M F (s.room.mono (Nat.le_succ _)) rfl O.pe L.pa (star_cons hs.1) (star_any hs.2) he
theorem call_of {X' : Cx} {cc : Cc} {i : Nat} {x : Str} {xs : List X} {es : List Expr} {p pos : Pos} (s : Sta c tb j X' cc) (hg : glB cc x = true) (hf : (x, i, xs.length) ∈ tb.fns) (L : OkL c X' xs es) : PE X' (.Call (.Name x p) es [] pos) (tX c (.call i xs)) := by
  obtain ⟨g1, g2⟩ := glB_ok s hg
  obtain ⟨f, hm, F⟩ := s.fns _ _ _ hf
  have hl2 := L.len
  cases es with
  | nil =>
    cases xs with
    | nil => exact snd_call0 F (s.room.mono (Nat.le_succ _)) g1 hm g2
    | cons _ _ => simp at hl2
  | cons e es =>
    have hs := L.star
    simp only [List.all_cons, Bool.and_eq_true] at hs
    exact snd_call F (s.room.mono (Nat.le_succ _)) g1 hm rfl L.pa g2 (star_cons hs.1) (star_any hs.2)
theorem new_of {X' : Cx} {cc : Cc} {k i : Nat} {x : Str} {xs : List X} {es : List Expr} {p pos : Pos} (s : Sta c tb j X' cc) (hg : glB cc x = true) (hf : (x, k, i, xs.length + 1) ∈ tb.cls) (L : OkL c X' xs es) : PE X' (.Call (.Name x p) es [] pos) (tX c (.new k i xs)) := by
  obtain ⟨g1, g2⟩ := glB_ok s hg
  obtain ⟨f, hm, M, F⟩ := s.cls _ _ _ _ hf
  have hl2 := L.len
  cases es with
  | nil =>
    cases xs with
    | nil => exact snd_new0 rfl M F s.room g1 hm g2
    | cons _ _ => simp at hl2
  | cons e es =>
    have hs := L.star
    simp only [List.all_cons, Bool.and_eq_true] at hs
    exact snd_new rfl M F s.room g1 hm rfl L.pa g2 (star_cons hs.1) (star_any hs.2)
theorem bi_of {X' : Cx} {cc : Cc} {b : Bi} {x : Str} {f : Value} {xs : List X} {es : List Expr} {p pos : Pos} (s : Sta c tb j X' cc) (hb : bltB tb cc x = true) (hq : bi? b = some (x, f)) (hne : xs ≠ []) (L : OkL c X' xs es) : PE X' (.Call (.Name x p) es [] pos) (tX c (.bi b xs)) := by
  obtain ⟨B, h1⟩ := bltB_ok s hb
  obtain ⟨h2, h3, h4, h5⟩ := bi_ok hq
  have hl2 := L.len
  cases es with
  | nil =>
    cases xs with
    | nil => exact absurd rfl hne
    | cons _ _ => simp at hl2
  | cons e es =>
    have hs := L.star
    simp only [List.all_cons, Bool.and_eq_true] at hs
    exact snd_bi s.K s.calm B h2 h3 h4 h5 L.pa (star_cons hs.1) (star_any hs.2)
theorem okL_cons {X' : Cx} {cc : Cc} {x : X} {xs : List X} {e : Expr} {es : List Expr} (s : Sta c tb j X' cc) (hs : noStar e = true) (O : OkX c X' x e) (L : OkL c X' xs es) : OkL c X' (x :: xs) (e :: es) where
  pa := snd_cons O.pe L.pa (star_cons hs)
  star := by rw [List.all_cons, hs, L.star]; rfl
  len := by simp [L.len]
  pk := fun kws h => by
    cases kws with
    | nil => simp at h
    | cons k kws =>
      obtain ⟨nm, v, q⟩ := k
      simp only [List.map_cons, List.cons.injEq] at h
      obtain ⟨rfl, h⟩ := h
      exact snd_k1 O.pe (L.pk kws h)
  and_ := fun _ pos => by
    have hl := L.len
    cases xs with
    | nil =>
      cases es with
      | nil => exact ⟨snd_and1 O.pe, snd_andT1 O.pt⟩
      | cons _ _ => simp at hl
    | cons y ys =>
      cases es with
      | nil => simp at hl
      | cons f fs =>
        obtain ⟨a, b⟩ := L.and_ (by simp) pos
        exact ⟨snd_andC s.K O.pe a, snd_andTC O.pt b⟩
  or_ := fun _ pos => by
    have hl := L.len
    cases xs with
    | nil =>
      cases es with
      | nil => exact ⟨snd_or1 O.pe, snd_orT1 O.pt⟩
      | cons _ _ => simp at hl
    | cons y ys =>
      cases es with
      | nil => simp at hl
      | cons f fs =>
        obtain ⟨a, b⟩ := L.or_ (by simp) pos
        exact ⟨snd_orC s.K O.pe a, snd_orTC O.pt b⟩
theorem two_of {X' : Cx} {xs : List X} {es : List Expr} (L : OkL c X' xs es) (h : xs.length = 2) : ∃ x y a b, xs = [x, y] ∧ es = [a, b] ∧ noStar a = true ∧ noStar b = true := by
  have hl := L.len
  have hs := L.star
  match xs, h with
  | [x, y], _ =>
    match es, hl, hs with
    | [a, b], _, hs =>
      simp only [List.all_cons, List.all_nil, Bool.and_true, Bool.and_eq_true] at hs
      exact ⟨x, y, a, b, rfl, rfl, hs.1, hs.2⟩
theorem three_of {X' : Cx} {xs : List X} {es : List Expr} (L : OkL c X' xs es) (h : xs.length = 3) : ∃ x y z a b d, xs = [x, y, z] ∧ es = [a, b, d] ∧ noStar a = true ∧ noStar b = true ∧ noStar d = true := by
  have hl := L.len
  have hs := L.star
  match xs, h with
  | [x, y, z], _ =>
    match es, hl, hs with
    | [a, b, d], _, hs =>
      simp only [List.all_cons, List.all_nil, Bool.and_true, Bool.and_eq_true] at hs
      exact ⟨x, y, z, a, b, d, rfl, rfl, hs.1, hs.2.1, hs.2.2⟩
theorem one_of {X' : Cx} {xs : List X} {es : List Expr} (L : OkL c X' xs es) (h : xs.length = 1) : ∃ x a, xs = [x] ∧ es = [a] ∧ noStar a = true := by
  have hl := L.len
  have hs := L.star
  match xs, h with
  | [x], _ =>
    match es, hl, hs with
    | [a], _, hs =>
      simp only [List.all_cons, List.all_nil, Bool.and_true] at hs
      exact ⟨x, a, rfl, rfl, hs⟩
theorem okR {X' : Cx} {xs : List X} {es : List Expr} {tg : Expr} {p pos : Pos} (B : Blt X' "range") (L : OkL c X' xs es) (h : xs.length = 1 ∨ xs.length = 2) : PI X' tg (.Call (.Name "range" p) es [] pos) (tI c (.rng xs)) := by
  rcases h with h | h
  · obtain ⟨x, a, rfl, rfl, h1⟩ := one_of L h
    exact snd_rng1 B L.pa (star_cons h1)
  · obtain ⟨x, y, a, b, rfl, rfl, h1, h2⟩ := two_of L h
    exact snd_rng2 B L.pa (by rw [star_cons h1, star_cons h2]; rfl) (star_cons h2)
theorem okZ {X' : Cx} {cc : Cc} {xs : List X} {es elts : List Expr} {kk : Nat} {tpos p pos : Pos} (s : Sta c tb j X' cc) (B : Blt X' "zip") (L : OkL c X' xs es) (h : xs.length = 2 ∨ xs.length = 3) : PI X' (.Tuple elts kk tpos) (.Call (.Name "zip" p) es [] pos) (tI c (.zip xs)) := by
  rcases h with h | h
  · obtain ⟨x, y, a, b, rfl, rfl, h1, h2⟩ := two_of L h
    exact snd_zip2 s.K B L.pa (by rw [star_cons h1, star_cons h2]; rfl) (star_cons h2)
  · obtain ⟨x, y, z, a, b, d, rfl, rfl, h1, h2, h3⟩ := three_of L h
    exact snd_zip3 s.K B L.pa (by rw [star_cons h1, star_cons h2, star_cons h3]; rfl) (by rw [star_cons h2, star_cons h3]; rfl)
theorem list_starN {e : Expr} {env : PySem.Env} (h : noStar e = true) : starEach [e] env = [(false, eval e env)] := star_cons h
mutual
theorem okX : ∀ (x : X) (cc : Cc) (e : Expr), chkX tb x cc e = true → ∀ X', Sta c tb j X' cc → OkX c X' x e
  | .var i, cc, e, h, X', s => by
    simp only [chkX] at h
    split at h
    · simp only [visB, Bool.and_eq_true, decide_eq_true_eq, Bool.not_eq_true'] at h
      obtain ⟨⟨⟨h1, h2⟩, h3⟩, h4⟩ := h
      refine OkX.of s (snd_var (by rw [s.N]; exact h1) ?_ h3 h4) rfl
      unfold Vis
      rw [s.sc]
      split at h2 <;> first | exact .inl (by assumption) | exact .inr (.inl (by assumption)) | exact .inr (.inr (by assumption)) | cases h2
    · cases h
  | .lit d, cc, e, h, X', s => lit_ok s (by simpa only [chkX] using h)
  | .con i, cc, e, h, X', s => by
    simp only [chkX] at h
    split at h
    · simp only [Bool.and_eq_true, decide_eq_true_eq] at h
      obtain ⟨g1, g2⟩ := glB_ok s h.1
      obtain ⟨d, v, u, h1, h2, h3, h4⟩ := s.con _ _ h.2
      exact OkX.of s (snd_con h1 (pe_glob g1 h2 h3 g2) h4) rfl
    · cases h
  | .tup xs, cc, e, h, X', s => by
    simp only [chkX] at h
    split at h
    · exact OkX.of s (snd_tup (okXs xs cc _ h X' s).pa) rfl
    · cases h
  | .bin op a b, cc, e, h, X', s => by
    simp only [chkX] at h
    split at h
    · simp only [Bool.and_eq_true, decide_eq_true_eq] at h
      obtain ⟨⟨rfl, h1⟩, h2⟩ := h
      exact OkX.of s (snd_bin s.K (okX a cc _ h1 X' s).pe (okX b cc _ h2 X' s).pe) rfl
    · cases h
  | .neg a, cc, e, h, X', s => by
    simp only [chkX] at h
    split at h
    · simp only [Bool.and_eq_true, decide_eq_true_eq] at h
      obtain ⟨rfl, h1⟩ := h
      exact OkX.of s (snd_neg (okX a cc _ h1 X' s).pe) rfl
    · cases h
  | .not a, cc, e, h, X', s => by
    simp only [chkX] at h
    split at h
    · simp only [Bool.and_eq_true, decide_eq_true_eq] at h
      obtain ⟨rfl, h1⟩ := h
      have A := okX a cc _ h1 X' s
      exact ⟨snd_not s.K A.pe, snd_notT A.pt⟩
    · cases h
  | .cmp op a b, cc, e, h, X', s => by
    simp only [chkX] at h
    split at h
    · simp only [Bool.and_eq_true, decide_eq_true_eq] at h
      obtain ⟨⟨⟨rfl, h1⟩, h2⟩, h3⟩ := h
      have A := okX a cc _ h1 X' s
      have B := okX b cc _ h2 X' s
      exact ⟨snd_cmp s.K s.hu A.pe B.pe (mk_plain h3), snd_cmpT s.K s.hu A.pe B.pe (mk_plain h3)⟩
    · cases h
  | .chain o1 o2 a b d, cc, e, h, X', s => by
    simp only [chkX] at h
    split at h
    · simp only [Bool.and_eq_true, decide_eq_true_eq] at h
      obtain ⟨⟨⟨⟨⟨rfl, rfl⟩, h1⟩, h2⟩, h3⟩, h4⟩ := h
      have A := okX a cc _ h1 X' s
      have B := okX b cc _ h2 X' s
      have D := okX d cc _ h3 X' s
      exact ⟨snd_chain s.K s.hu A.pe B.pe D.pe (mks_plain h4), snd_chainT s.K s.hu A.pe B.pe D.pe (mks_plain h4)⟩
    · cases h
  | .and xs, cc, e, h, X', s => by
    simp only [chkX] at h
    split at h
    · simp only [Bool.and_eq_true, decide_eq_true_eq, Bool.not_eq_true', List.isEmpty_eq_false_iff] at h
      obtain ⟨⟨rfl, h1⟩, h2⟩ := h
      obtain ⟨a, b⟩ := (okXs xs cc _ h1 X' s).and_ h2 _
      exact ⟨tXand_of a, tXandT_of b.pt⟩
    · cases h
  | .or xs, cc, e, h, X', s => by
    simp only [chkX] at h
    split at h
    · simp only [Bool.and_eq_true, decide_eq_true_eq, Bool.not_eq_true', List.isEmpty_eq_false_iff] at h
      obtain ⟨⟨rfl, h1⟩, h2⟩ := h
      obtain ⟨a, b⟩ := (okXs xs cc _ h1 X' s).or_ h2 _
      exact ⟨tXor_of a, tXorT_of b.pt⟩
    · cases h
  | .ite t a b, cc, e, h, X', s => by
    simp only [chkX] at h
    split at h
    · simp only [Bool.and_eq_true] at h
      obtain ⟨⟨h1, h2⟩, h3⟩ := h
      have T := okX t cc _ h1 X' s
      have A := okX a cc _ h2 X' s
      have B := okX b cc _ h3 X' s
      exact ⟨snd_ite T.pt A.pe B.pe, snd_iteT T.pt A.pt B.pt⟩
    · cases h
  | .idx a i, cc, e, h, X', s => by
    simp only [chkX] at h
    split at h
    · simp only [Bool.and_eq_true] at h
      obtain ⟨⟨h1, h2⟩, h3⟩ := h
      exact OkX.of s (snd_idx s.K (okX a cc _ h2 X' s).pe (okX i cc _ h3 X' s).pe (ix_plain h1)) rfl
    · cases h
  | .slice a lo hi, cc, e, h, X', s => by
    simp only [chkX] at h
    split at h
    · simp only [Bool.and_eq_true] at h
      obtain ⟨⟨h1, h2⟩, h3⟩ := h
      exact OkX.of s (snd_slice s.K (okX a cc _ h1 X' s).pe (okO lo cc _ h2 X' s) (okO hi cc _ h3 X' s)) rfl
    · cases h
  | .attr a f, cc, e, h, X', s => by
    simp only [chkX] at h
    split at h
    · simp only [Bool.and_eq_true, decide_eq_true_eq] at h
      obtain ⟨⟨⟨rfl, h1⟩, h2⟩, h3⟩ := h
      exact OkX.of s (snd_attr (k := 0) (fun k => (s.fld _ h1 k).1) (fun k => (s.fld _ h1 k).2) (okX a cc _ h3 X' s).pe (attr_plain h2)) rfl
    · cases h
  | .call f xs, cc, e, h, X', s => by
    simp only [chkX] at h
    split at h
    · rename_i x p es kws pos
      split at h
      · rename_i hk
        have hk : kws = [] := by simpa using hk
        subst hk
        simp only [Bool.and_eq_true, decide_eq_true_eq] at h
        obtain ⟨⟨h1, h2⟩, h3⟩ := h
        exact OkX.of s (call_of s h1 h2 (okXs xs cc _ h3 X' s)) rfl
      · simp only [Bool.and_eq_true, decide_eq_true_eq, List.isEmpty_iff] at h
        obtain ⟨⟨⟨⟨rfl, h1⟩, h2⟩, h3⟩, h4⟩ := h
        have L := okXs xs cc _ h4 X' s
        obtain ⟨g1, g2⟩ := glB_ok s h1
        obtain ⟨fa, hm, F⟩ := s.kws _ _ _ h2
        have hl := L.len
        exact OkX.of s (snd_callK F (s.room.mono (Nat.le_succ _)) g1 hm (by rw [← hl]; simp [kwNames]) (L.pk kws rfl) (kwNames_ok h3) g2) rfl
    · cases h
  | .meth a k f m xs, cc, e, h, X', s => by
    simp only [chkX] at h
    split at h
    · simp only [Bool.and_eq_true, decide_eq_true_eq] at h
      obtain ⟨⟨⟨⟨⟨⟨rfl, h1⟩, h2⟩, h3⟩, h4⟩, h5⟩, h6⟩ := h
      exact OkX.of s (meth_of (np := 0) s h1 h2 h3 h4 (okX a cc _ h5 X' s) (okXs xs cc _ h6 X' s)) rfl
    · cases h
  | .new k f xs, cc, e, h, X', s => by
    simp only [chkX] at h
    split at h
    · simp only [Bool.and_eq_true, decide_eq_true_eq] at h
      obtain ⟨⟨h1, h2⟩, h3⟩ := h
      exact OkX.of s (new_of s h1 h2 (okXs xs cc _ h3 X' s)) rfl
    · cases h
  | .bi b xs, cc, e, h, X', s => by
    unfold chkX at h
    split at h
    · rename_i x p es p2
      split at h
      · rename_i tys
        split at h
        · rename_i a t xa
          simp only [Bool.and_eq_true, decide_eq_true_eq] at h
          obtain ⟨⟨⟨⟨h1, rfl⟩, h2⟩, h3⟩, h4⟩ := h
          obtain ⟨B, _⟩ := bltB_ok s h1
          have A := okX xa cc _ h3 X' s
          split at h4
          · split at h4
            · rename_i t1
              obtain ⟨y, q, e1, B2, k1, k2, k3, k4⟩ := tyB_ok s h4
              cases e1
              exact OkX.of s (snd_isa1 s.K B B2 k1 k2 k3 k4 A.pe (star_cons h2)) rfl
            · cases h4
          · simp only [Bool.and_eq_true, decide_eq_true_eq] at h4
            obtain ⟨k1, k2, k3⟩ := tysB_ok s h4.1
            exact OkX.of s (snd_isaT s.K B k1 h4.2 A.pe k3 (star_cons h2)) rfl
          · cases h4
        · cases h
      · split at h
        · simp only [Bool.and_eq_true, decide_eq_true_eq] at h
          obtain ⟨⟨⟨⟨⟨h1, rfl⟩, h2⟩, rfl⟩, h3⟩, h4⟩ := h
          exact OkX.of s (snd_lenset s.K s.calm (bltB_ok s h1).1 (bltB_ok s h2).1 (okX _ cc _ h4 X' s).pe (star_cons h3)) rfl
        · cases h
      · simp only [Bool.and_eq_true, Bool.not_eq_true', List.isEmpty_eq_false_iff] at h
        obtain ⟨⟨⟨h1, h2⟩, h3⟩, h4⟩ := h
        split at h2
        · rename_i q hq
          simp only [decide_eq_true_eq] at h2
          obtain ⟨y, f⟩ := q
          cases h2
          exact OkX.of s (bi_of s h1 hq h4 (okXs xs cc _ h3 X' s)) rfl
        · cases h2
    · cases h
  | .pop a xs, cc, e, h, X', s => by
    simp only [chkX] at h
    split at h
    · simp only [Bool.and_eq_true, decide_eq_true_eq, List.isEmpty_iff] at h
      obtain ⟨⟨⟨⟨rfl, rfl⟩, h1⟩, h2⟩, h3⟩ := h
      exact OkX.of s (snd_pop (okX a cc _ h3 X' s).pe (attr_plain h1) h2) rfl
    · cases h
  | .val k, cc, e, h, X', s => OkX.of s (snd_val (okC k cc e (by simpa only [chkX] using h) X' s).pe) (okC k cc e (by simpa only [chkX] using h) X' s).tst
  | .own k, cc, e, h, X', s => OkX.of s (snd_own (okC k cc e (by simpa only [chkX] using h) X' s).pe) (okC k cc e (by simpa only [chkX] using h) X' s).tst
  | .kget i k z, cc, e, h, X', s => by
    simp only [chkX] at h
    split at h
    · simp only [Bool.and_eq_true, decide_eq_true_eq] at h
      obtain ⟨⟨⟨⟨⟨⟨h0, rfl⟩, h2⟩, h3⟩, h4⟩, h6⟩, h7⟩ := h
      split at h0
      · simp only [Bool.and_eq_true, decide_eq_true_eq] at h0
        obtain ⟨g1, g2⟩ := glB_ok s h0.1
        obtain ⟨a, rows, k1, k2, T⟩ := s.kds _ _ h0.2
        exact OkX.of s (snd_kget k1 T (pe_glob g1 k2 rfl g2) (snd_cons (okX k cc _ h6 X' s).pe (snd_cons (okX z cc _ h7 X' s).pe snd_nil (star_cons h3)) (star_cons h2)) rfl (few2 h2 h3) h4 (star_cons h2) (by rw [star_cons h3]; rfl)) rfl
      · cases h0
    · cases h
  | .callv _ _, _, _, h, _, _ => by simp [chkX] at h
  | .rev a, cc, e, h, X', s => by
    simp only [chkX] at h
    split at h
    · exact OkX.of s (snd_rev s.K (okX a cc _ h X' s).pe) rfl
    · cases h
  | .tupr xs, cc, e, h, X', s => by
    unfold chkX at h
    split at h
    · simp only [Bool.and_eq_true, decide_eq_true_eq] at h
      obtain ⟨⟨⟨⟨h1, rfl⟩, h2⟩, rfl⟩, h3⟩ := h
      split at h3
      · simp only [Bool.and_eq_true] at h3
        exact OkX.of s (snd_tupr1 s.calm (bltB_ok s h1).1 (bltB_ok s h2).1 (okX _ cc _ h3.2 X' s).pe (star_cons h3.1)) rfl
      · cases h3
    · cases h
  | .dnew, cc, e, h, X', s => by
    simp only [chkX] at h
    split at h
    · exact OkX.of s (snd_dnew s.P s.w) rfl
    · cases h
  | .dix a k, cc, e, h, X', s => by
    simp only [chkX] at h
    split at h
    · simp only [Bool.and_eq_true] at h
      obtain ⟨⟨h1, h2⟩, h3⟩ := h
      exact OkX.of s (snd_dix s.K s.P s.w s.hu (okX a cc _ h2 X' s).pe (okX k cc _ h3 X' s).pe (ix_plain h1)) rfl
    · cases h
  | .din neg k a, cc, e, h, X', s => by
    simp only [chkX] at h
    split at h
    · simp only [Bool.and_eq_true, decide_eq_true_eq] at h
      obtain ⟨⟨⟨rfl, h1⟩, h2⟩, h3⟩ := h
      have A := okX k cc _ h1 X' s
      have B := okX a cc _ h2 X' s
      exact ⟨snd_din s.K s.P s.w s.hu A.pe B.pe (mk_plain h3), snd_dinT s.K s.P s.w s.hu A.pe B.pe (mk_plain h3)⟩
    · cases h
  | .dsetd a k v, cc, e, h, X', s => by
    simp only [chkX] at h
    split at h
    · simp only [Bool.and_eq_true, decide_eq_true_eq] at h
      obtain ⟨⟨⟨⟨⟨⟨⟨rfl, h1⟩, h2⟩, h3⟩, h4⟩, h5⟩, h6⟩, h7⟩ := h
      exact OkX.of s (snd_dsetd s.K s.P s.w s.hu (okX a cc _ h5 X' s).pe (snd_cons (okX k cc _ h6 X' s).pe (snd_cons (okX v cc _ h7 X' s).pe snd_nil (star_cons h3)) (star_cons h2)) (attr_plain h1) (few2 h2 h3) h4 (star_cons h2) (by rw [star_cons h3]; rfl)) rfl
    · cases h
  | .dlen _, _, _, h, _, _ => by simp [chkX] at h
  | .dget _ _ _, _, _, h, _, _ => by simp [chkX] at h
  | .dcomp ow k v p it fs, cc, e, h, X', s => by
    simp only [chkX] at h
    split at h
    · rename_i kx vx tg iter ifs scope pos
      simp only [Bool.and_eq_true, List.all_eq_true, decide_eq_true_eq] at h
      obtain ⟨⟨⟨⟨⟨⟨h1, h2⟩, h3⟩, h4⟩, h5⟩, h6⟩, h7⟩ := h
      have ok : BlkOk X'.N X'.env.scope scope (ownOf cc.N ow) := by rw [s.N, s.sc]; exact blkOk_by h1
      obtain ⟨A, A2⟩ := okI it cc tg iter h3 X' s
      have P := snd_dcomp (pos := pos) s.P s.w s.K s.hu s.calm s.xnd A ok (by rw [ownOf_snd]; exact h2)
        (fun s0 H C cl fp => okP p (cc.blk scope) tg h4 _ (s.blk ok s0 H C cl fp)) (fun s0 H C cl fp => okF fs (cc.blk scope) ifs h5 _ (s.blk ok s0 H C cl fp))
        (fun s0 H C cl fp => (okX k (cc.blk scope) kx h6 _ (s.blk ok s0 H C cl fp)).pe) (fun s0 H C cl fp => (okX v (cc.blk scope) vx h7 _ (s.blk ok s0 H C cl fp)).pe) (fun x => it_plain A2)
      rw [ownOf_snd] at P
      exact OkX.of s P rfl
    · cases h
theorem okXs : ∀ (xs : List X) (cc : Cc) (es : List Expr), chkXs tb xs cc es = true → ∀ X', Sta c tb j X' cc → OkL c X' xs es
  | [], cc, es, h, X', s => by
    simp only [chkXs, List.isEmpty_iff] at h
    subst h
    exact ⟨snd_nil, rfl, rfl, fun kws h => by
      have : kws = [] := by simpa using h
      subst this
      exact snd_k0, fun h => absurd rfl h, fun h => absurd rfl h⟩
  | x :: xs, cc, es, h, X', s => by
    simp only [chkXs] at h
    split at h
    · simp only [Bool.and_eq_true] at h
      exact okL_cons s h.1.1 (okX x cc _ h.1.2 X' s) (okXs xs cc _ h.2 X' s)
    · cases h
theorem okO : ∀ (xs : List X) (cc : Cc) (o : Option Expr), chkO tb xs cc o = true → ∀ X', Sta c tb j X' cc → PO X' o (tXo c xs)
  | [], cc, o, h, X', s => by
    simp only [chkO, Option.isNone_iff_eq_none] at h
    subst h
    exact snd_o0
  | x :: xs, cc, o, h, X', s => by
    simp only [chkO] at h
    split at h
    · simp only [Bool.and_eq_true, List.isEmpty_iff] at h
      obtain ⟨rfl, h⟩ := h
      exact snd_o1 (okX x cc _ h X' s).pe
    · cases h
theorem okF : ∀ (xs : List X) (cc : Cc) (es : List Expr), chkF tb xs cc es = true → ∀ X', Sta c tb j X' cc → PTs X' es (tXi c xs)
  | [], cc, es, h, X', s => by
    simp only [chkF, List.isEmpty_iff] at h
    subst h
    exact snd_i0
  | x :: xs, cc, es, h, X', s => by
    simp only [chkF] at h
    split at h
    · simp only [Bool.and_eq_true, List.isEmpty_iff] at h
      obtain ⟨rfl, h⟩ := h
      exact snd_i1 (okX x cc _ h X' s).pt
    · cases h
theorem okI : ∀ (it : I) (cc : Cc) (tg e : Expr), chkI tb it cc tg e = true → ∀ X', Sta c tb j X' cc → PI X' tg e (tI c it) ∧ notSet e = true
  | .src x, cc, tg, e, h, X', s => by
    simp only [chkI, Bool.and_eq_true] at h
    exact ⟨snd_src s.K (okX x cc e h.2 X' s).pe, h.1⟩
  | .rng xs, cc, tg, e, h, X', s => by
    simp only [chkI] at h
    split at h
    · simp only [Bool.and_eq_true, Bool.or_eq_true, decide_eq_true_eq] at h
      obtain ⟨⟨⟨h1, rfl⟩, h2⟩, h3⟩ := h
      obtain ⟨B, _⟩ := bltB_ok s h1
      exact ⟨okR B (okXs xs cc _ h2 X' s) h3, rfl⟩
    · cases h
  | .enum a, cc, tg, e, h, X', s => by
    simp only [chkI] at h
    split at h
    · simp only [Bool.and_eq_true, decide_eq_true_eq] at h
      obtain ⟨⟨⟨⟨h1, h2⟩, rfl⟩, h3⟩, h4⟩ := h
      obtain ⟨B, _⟩ := bltB_ok s h2
      have A := okX a cc _ h4 X' s
      cases tg <;> simp [isTuple] at h1
      exact ⟨snd_enum s.K B A.pe (star_cons h3), rfl⟩
    · cases h
  | .zip xs, cc, tg, e, h, X', s => by
    simp only [chkI] at h
    split at h
    · simp only [Bool.and_eq_true, Bool.or_eq_true, decide_eq_true_eq] at h
      obtain ⟨⟨⟨⟨h1, h2⟩, rfl⟩, h3⟩, h4⟩ := h
      obtain ⟨B, _⟩ := bltB_ok s h2
      have L := okXs xs cc _ h3 X' s
      cases tg <;> simp [isTuple] at h1
      exact ⟨okZ s B L h4, rfl⟩
    · cases h
theorem okC : ∀ (k : C) (cc : Cc) (e : Expr), chkC tb k cc e = true → ∀ X', Sta c tb j X' cc → OkC c X' k e
  | .disp xs, cc, e, h, X', s => by
    simp only [chkC] at h
    split at h
    · exact ⟨snd_disp (okXs xs cc _ h X' s).pa, rfl, fun _ _ _ _ _ _ h => by simp [swX] at h⟩
    · cases h
  | .comp ow el p it fs, cc, e, h, X', s => by
    simp only [chkC] at h
    split at h
    · rename_i elt tg iter ifs scope pos
      simp only [Bool.and_eq_true, List.all_eq_true, decide_eq_true_eq] at h
      obtain ⟨⟨⟨⟨⟨h1, h2⟩, h3⟩, h4⟩, h5⟩, h6⟩ := h
      have ok : BlkOk X'.N X'.env.scope scope (ownOf cc.N ow) := by rw [s.N, s.sc]; exact blkOk_by h1
      obtain ⟨A, A2⟩ := okI it cc tg iter h3 X' s
      have hps : ∀ i ∈ p.slots, i ∈ (ownOf cc.N ow).map (·.2) := by rw [ownOf_snd]; exact h2
      have G := fun (s0 : Shared) (H : Hp) (C : Addr) (cl : List (Str × Addr)) (fp : List Addr) => okP p (cc.blk scope) tg h4 _ (s.blk ok s0 H C cl fp)
      have F := fun (s0 : Shared) (H : Hp) (C : Addr) (cl : List (Str × Addr)) (fp : List Addr) => okF fs (cc.blk scope) ifs h5 _ (s.blk ok s0 H C cl fp)
      have E := fun (s0 : Shared) (H : Hp) (C : Addr) (cl : List (Str × Addr)) (fp : List Addr) => (okX el (cc.blk scope) elt h6 _ (s.blk ok s0 H C cl fp)).pe
      have P := snd_comp (pos := pos) s.calm s.xnd A ok hps G F E (fun x => it_plain A2)
      rw [ownOf_snd] at P
      refine ⟨P, rfl, fun spos py y i hy hl hsw => ?_⟩
      have st := ps_setLc (pos := pos) (py := py) (spos := spos) s.calm s.xnd hy hl (by rw [sw_name s.xkind]; exact congrArg pure hsw) A ok G F E (fun x => it_plain A2)
      have rd : ∀ σ H Q, tCx c (.comp ow el p it fs) σ H Q → tLc (tI c it) (tG c p) (tXi c fs) (tX c el) ((ownOf cc.N ow).map (·.2)) σ H Q := fun σ H Q h => rd_comp σ H Q (by rw [ownOf_snd]; exact h) hps
      exact ⟨asg_val st rd, asg_own st rd⟩
    · cases h
  | .comp2 ow el p it fs ow1 p1 it1 fs1, cc, e, h, X', s => by
    simp only [chkC] at h
    split at h
    · rename_i elt tg iter ifs tg1 iter1 ifs1 scope pos
      simp only [Bool.and_eq_true, List.all_eq_true, decide_eq_true_eq] at h
      obtain ⟨⟨⟨⟨⟨⟨⟨⟨⟨⟨h1, h2⟩, h2b⟩, h2c⟩, h3⟩, h4⟩, h5⟩, h3b⟩, h4b⟩, h5b⟩, h6⟩ := h
      have ok : BlkOk X'.N X'.env.scope scope (ownOf cc.N ow) := by rw [s.N, s.sc]; exact blkOk_by h1
      obtain ⟨A, A2⟩ := okI it cc tg iter h3 X' s
      have hps : ∀ i ∈ p.slots, i ∈ (ownOf cc.N ow).map (·.2) := by rw [ownOf_snd]; exact h2
      have hv : ∀ i ∈ ow1, i ∈ (ownOf cc.N ow).map (·.2) := by rw [ownOf_snd]; exact h2c
      have G := fun (s0 : Shared) (H : Hp) (C : Addr) (cl : List (Str × Addr)) (fp : List Addr) => okP p (cc.blk scope) tg h4 _ (s.blk ok s0 H C cl fp)
      have F := fun (s0 : Shared) (H : Hp) (C : Addr) (cl : List (Str × Addr)) (fp : List Addr) => okF fs (cc.blk scope) ifs h5 _ (s.blk ok s0 H C cl fp)
      have A1 := fun (s0 : Shared) (H : Hp) (C : Addr) (cl : List (Str × Addr)) (fp : List Addr) => (okI it1 (cc.blk scope) tg1 iter1 h3b _ (s.blk ok s0 H C cl fp)).1
      have A3 : notSet iter1 = true := (okI it1 (cc.blk scope) tg1 iter1 h3b _ (s.blk ok X'.s_0 X'.H_0 0 [] [])).2
      have G1 := fun (s0 : Shared) (H : Hp) (C : Addr) (cl : List (Str × Addr)) (fp : List Addr) => okP p1 (cc.blk scope) tg1 h4b _ (s.blk ok s0 H C cl fp)
      have F1 := fun (s0 : Shared) (H : Hp) (C : Addr) (cl : List (Str × Addr)) (fp : List Addr) => okF fs1 (cc.blk scope) ifs1 h5b _ (s.blk ok s0 H C cl fp)
      have E := fun (s0 : Shared) (H : Hp) (C : Addr) (cl : List (Str × Addr)) (fp : List Addr) => (okX el (cc.blk scope) elt h6 _ (s.blk ok s0 H C cl fp)).pe
      have P := snd_comp2 (pos := pos) s.calm s.xnd A ok hps h2b hv G F A1 G1 F1 E (fun x => it_plain A2) (fun env x => it_plain A3)
      rw [ownOf_snd] at P
      refine ⟨P, rfl, fun spos py y i hy hl hsw => ?_⟩
      have st := ps_setLc2 (pos := pos) (py := py) (spos := spos) s.calm s.xnd hy hl (by rw [sw_name s.xkind]; exact congrArg pure hsw) A ok hv G F A1 G1 F1 E (fun x => it_plain A2) (fun env x => it_plain A3)
      have rd : ∀ σ H Q, tCx c (.comp2 ow el p it fs ow1 p1 it1 fs1) σ H Q → tLc2 (tI c it) (tG c p) (tXi c fs) (tI c it1) (tG c p1) (tXi c fs1) (tX c el) ((ownOf cc.N ow).map (·.2)) ow1 σ H Q := fun σ H Q h => rd_comp2 σ H Q (by rw [ownOf_snd]; exact h) hps h2b
      exact ⟨asg_val st rd, asg_own st rd⟩
    · cases h
  | .list a, cc, e, h, X', s => by
    simp only [chkC] at h
    split at h
    · simp only [Bool.and_eq_true, decide_eq_true_eq] at h
      obtain ⟨⟨⟨h1, rfl⟩, h2⟩, h3⟩ := h
      obtain ⟨B, _⟩ := bltB_ok s h1
      exact ⟨snd_list s.K B (okX a cc _ h3 X' s).pe (star_cons h2), rfl, fun _ _ _ _ _ _ h => by simp [swX] at h⟩
    · cases h
  | .revl a, cc, e, h, X', s => by
    simp only [chkC] at h
    split at h
    · exact ⟨snd_revL (okX a cc _ h X' s).pe, rfl, fun _ _ _ _ _ _ h => by simp [swX] at h⟩
    · cases h
  | .keys a, cc, e, h, X', s => by
    simp only [chkC] at h
    split at h
    · simp only [Bool.and_eq_true, decide_eq_true_eq] at h
      obtain ⟨⟨⟨h1, rfl⟩, h2⟩, h3⟩ := h
      exact ⟨snd_keys s.K s.P s.w s.calm (bltB_ok s h1).1 (okX a cc _ h3 X' s).pe (star_cons h2), rfl, fun _ _ _ _ _ _ h => by simp [swX] at h⟩
    · cases h
  | .sorted a st, cc, e, h, X', s => by
    simp only [chkC] at h
    split at h
    · cases st with
      | true =>
        simp only at h
        split at h
        · simp only [Bool.and_eq_true, decide_eq_true_eq] at h
          obtain ⟨⟨⟨⟨⟨h1, rfl⟩, h2⟩, rfl⟩, h3⟩, h4⟩ := h
          exact ⟨snd_sortset s.K s.calm s.hu (bltB_ok s h1).1 (bltB_ok s h2).1 (okX a cc _ h4 X' s).pe (star_cons h3), rfl, fun _ _ _ _ _ _ h => by simp [swX] at h⟩
        · cases h
      | false =>
        simp only [Bool.and_eq_true, decide_eq_true_eq] at h
        obtain ⟨⟨⟨h1, rfl⟩, h2⟩, h3⟩ := h
        exact ⟨snd_sorted s.K s.hu (bltB_ok s h1).1 (okX a cc _ h3 X' s).pe (star_cons h2), rfl, fun _ _ _ _ _ _ h => by simp [swX] at h⟩
    · cases h
end
end
end Rx

set_option Elab.async false
set_option autoImplicit false
set_option linter.all false
set_option maxRecDepth 100000
set_option maxHeartbeats 4000000
/-! Rx22: statements and defs that a look has let. -/
namespace Rx
open PySem PySem.Spec PyProof.Rows L2
section
variable (tb : Tb)
mutual
def chkT : Tg → Cc → Expr → Bool
  | .nm i, cc, e => match e with
    | .Name x _ => decide (cc.N[i]? = some x) && cc.st x
    | _ => false
  | .tup l, cc, e => match e with
    | .Tuple es _ _ => chkTs l cc es
    | _ => false
  | .attr a f, cc, e => match e with
    | .Attribute o g _ => decide (g = f) && decide (f ∈ tb.fld) && chkX tb a cc o
    | _ => false
  | .sub a i, cc, e => match e with
    | .Subscript o s _ => notSlice s && chkX tb a cc o && chkX tb i cc s
    | _ => false
  | .dsub a i, cc, e => match e with
    | .Subscript o s _ => notSlice s && chkX tb a cc o && chkX tb i cc s
    | _ => false
def chkTs : List Tg → Cc → List Expr → Bool
  | [], _, es => es.isEmpty
  | t :: l, cc, es => match es with
    | e :: es => noStar e && chkT t cc e && chkTs l cc es
    | [] => false
end
/-- a value that is a comprehension stored on its line -/
def cvB (cc : Cc) (y : Str) (py : Pos) (e : Expr) : X → Bool
  | .val k => swX cc.sc y py e && chkC tb k cc e
  | .own k => swX cc.sc y py e && chkC tb k cc e
  | _ => false
def isListComp : Expr → Bool
  | .ListComp _ _ _ _ => true
  | _ => false
def locB (cc : Cc) (i : Nat) : Expr → Bool
  | .Name x _ => decide (cc.N[i]? = some x) && decide (cc.sc.names.lookup x = some .local)
  | _ => false
def kdOf (cc : Cc) : Str → Option NameKind := fun x => cc.sc.names.lookup x
mutual
def chkS : Sm → Cc → Stmt → Bool
  | .expr x, cc, s => match s with
    | .Expr e _ => notComp e && chkX tb x cc e
    | _ => false
  | .asg t x, cc, s => match s with
    | .Assign [tg] e _ => match tg with
      | .Name y py => match t with
        | .nm i => decide (cc.N[i]? = some y) && cc.st y && (if isListComp e && swX cc.sc y py e then cvB tb cc y py e x else (notComp e || isListComp e) && chkX tb x cc e)
        | _ => false
      | tg => notName tg && noStar tg && chkT tb t cc tg && chkX tb x cc e && (!(isTuple e) || notTup tg || (match tg, e with
        | .Tuple ts _ _, .Tuple vs _ _ => (match parC (kdOf cc) ts vs with
          | some none => true
          | _ => false)
        | _, _ => false))
    | _ => false
  | .par is xs, cc, s => match s with
    | .Assign [.Tuple ts _ _] (.Tuple vs _ _) _ => chkXs tb xs cc vs && (match is, ts with
      | [i, j], [a, b] => decide (i ≠ j) && locB cc i a && locB cc j b && (match a, b with
        | .Name x _, .Name y _ => decide (parC (kdOf cc) ts vs = some (some [x, y])) && decide (xs.length = 2)
        | _, _ => false)
      | [i, j, l], [a, b, d] => decide (i ≠ j) && decide (i ≠ l) && decide (j ≠ l) && locB cc i a && locB cc j b && locB cc l d && (match a, b, d with
        | .Name x _, .Name y _, .Name z _ => decide (parC (kdOf cc) ts vs = some (some [x, y, z])) && decide (xs.length = 3)
        | _, _, _ => false)
      | _, _ => false)
    | _ => false
  | .aug i op x, cc, s => match s with
    | .AugAssign (.Name y _) o e _ => decide (o = op.op) && (decide (op = .add) || decide (op = .sub)) && decide (cc.N[i]? = some y) && cc.st y && chkX tb x cc e
    | _ => false
  | .append a x, cc, s => match s with
    | .Expr (.Call (.Attribute o m ap) [e] [] p) _ => decide (m = "append") && notCall o && noStar e && (ap.endLine == p.line) && chkX tb a cc o && chkX tb x cc e
    | _ => false
  | .extend a x, cc, s => match s with
    | .Expr (.Call (.Attribute o m ap) [e] [] p) _ => decide (m = "extend") && notCall o && noStar e && (ap.endLine == p.line) && chkX tb a cc o && chkX tb x cc e
    | _ => false
  | .ite x b1 b2, cc, s => match s with
    | .If e c1 c2 _ => chkX tb x cc e && chkB b1 cc c1 && chkB b2 cc c2
    | _ => false
  | .whl x b, cc, s => match s with
    | .While e c [] _ => chkX tb x cc e && chkB b cc c
    | _ => false
  | .for_ p it b, cc, s => match s with
    | .For tg e c [] _ => chkI tb it cc tg e && chkP p cc tg && chkB b cc c
    | _ => false
  | .ret x, cc, s => match s with
    | .Return (some e) _ => chkX tb x cc e
    | _ => false
  | .retN, _, s => match s with
    | .Return none _ => true
    | _ => false
  | .pass, _, s => match s with
    | .Pass _ => true
    | _ => false
  | .brk, _, s => match s with
    | .Break _ => true
    | _ => false
  | .cnt, _, s => match s with
    | .Continue _ => true
    | _ => false
  | .raise _ _, _, _ => true
  | .try_ _ _ _ _, _, _ => true
def chkB : List Sm → Cc → List Stmt → Bool
  | [], _, l => l.isEmpty
  | s :: b, cc, l => match l with
    | st :: r => chkS s cc st && chkB b cc r
    | [] => false
end
end
section
variable {c : Cfg} {tb : Tb} {j : Nat}
mutual
theorem okT : ∀ (t : Tg) (cc : Cc) (e : Expr), chkT tb t cc e = true → ∀ X', Sta c tb j X' cc → PG X' e (tTg c t)
  | .nm i, cc, e, h, X', s => by
    simp only [chkT] at h
    split at h
    · simp only [Bool.and_eq_true, decide_eq_true_eq] at h
      obtain ⟨a, b⟩ := s.st _ h.2
      exact snd_tnm s.xnd (by rw [s.N]; exact h.1) a b
    · cases h
  | .tup l, cc, e, h, X', s => by
    simp only [chkT] at h
    split at h
    · obtain ⟨a, b, d⟩ := okTs l cc _ h X' s
      obtain ⟨q1, q2⟩ := as_len (env := X'.env) b
      exact snd_ttup s.K s.calm a (q1.trans d) q2
    · cases h
  | .attr a f, cc, e, h, X', s => by
    simp only [chkT] at h
    split at h
    · simp only [Bool.and_eq_true, decide_eq_true_eq] at h
      obtain ⟨⟨rfl, h1⟩, h2⟩ := h
      exact snd_tattr (fun k => (s.fld _ h1 k).1) (fun k => (s.fld _ h1 k).2) (okX a cc _ h2 X' s).pe
    · cases h
  | .sub a i, cc, e, h, X', s => by
    simp only [chkT] at h
    split at h
    · simp only [Bool.and_eq_true] at h
      obtain ⟨⟨h1, h2⟩, h3⟩ := h
      exact snd_tsub (sub_plain h1) (okX a cc _ h2 X' s).pe (okX i cc _ h3 X' s).pe
    · cases h
  | .dsub a i, cc, e, h, X', s => by
    simp only [chkT] at h
    split at h
    · simp only [Bool.and_eq_true] at h
      obtain ⟨⟨h1, h2⟩, h3⟩ := h
      exact snd_tdsub s.K s.P s.w s.hu (sub_plain h1) (okX a cc _ h2 X' s).pe (okX i cc _ h3 X' s).pe
    · cases h
theorem okTs : ∀ (l : List Tg) (cc : Cc) (es : List Expr), chkTs tb l cc es = true → ∀ X', Sta c tb j X' cc → PGs X' es (tTgs c l) ∧ es.all noStar = true ∧ es.length = l.length
  | [], cc, es, h, X', s => by
    simp only [chkTs, List.isEmpty_iff] at h
    subst h
    exact ⟨snd_tgnil, rfl, rfl⟩
  | t :: l, cc, es, h, X', s => by
    simp only [chkTs] at h
    split at h
    · simp only [Bool.and_eq_true] at h
      obtain ⟨a, b, d⟩ := okTs l cc _ h.2 X' s
      exact ⟨snd_tgcons (okT t cc _ h.1.2 X' s) a (as_map h.1.1), by rw [List.all_cons, h.1.1, b]; rfl, by simp [d]⟩
    · cases h
end
theorem cv_ok {X' : Cx} {cc : Cc} {y : Str} {py spos : Pos} {i : Nat} {e : Expr} {x : X} (s : Sta c tb j X' cc) (hN : cc.N[i]? = some y) (hl : cc.sc.names.lookup y = some .local) (h : cvB tb cc y py e x = true) : PS X' (.Assign [.Name y py] e spos) (tS c (.asg (.nm i) x)) := by
  cases x <;> simp only [cvB, Bool.and_eq_true, Bool.false_eq_true] at h
  · exact ((okC _ cc e h.2 X' s).sw spos py y i (by rw [s.N]; exact hN) (by rw [s.sc]; exact hl) (by rw [s.sc]; exact h.1)).1
  · exact ((okC _ cc e h.2 X' s).sw spos py y i (by rw [s.N]; exact hN) (by rw [s.sc]; exact hl) (by rw [s.sc]; exact h.1)).2
theorem loc_ok {cc : Cc} {i : Nat} {x : Str} {p : Pos} (h : locB cc i (.Name x p) = true) : cc.N[i]? = some x ∧ cc.sc.names.lookup x = some .local := by
  simpa [locB] using h
theorem as_one {t : Expr} {env : PySem.Env} (h : noStar t = true) : (assignEach [t] env).map (·.2) = [assign t env] := as_map h
mutual
theorem okS : ∀ (sm : Sm) (cc : Cc) (st : Stmt), chkS tb sm cc st = true → ∀ X', Sta c tb j X' cc → PassesOwn (model X'.prog X'.w) X'.A X'.env X'.xe → PS X' st (tS c sm)
  | .expr x, cc, st, h, X', s, hp => by
    simp only [chkS] at h
    split at h
    · simp only [Bool.and_eq_true] at h
      exact snd_expr (okX x cc _ h.2 X' s).pe (sw_plain h.1)
    · cases h
  | .asg t x, cc, st, h, X', s, hp => by
    unfold chkS at h
    split at h
    · rename_i tg e pos
      split at h
      · rename_i y py
        split at h
        · rename_i i
          simp only [Bool.and_eq_true, decide_eq_true_eq] at h
          obtain ⟨⟨h1, h2⟩, h3⟩ := h
          obtain ⟨a, b⟩ := s.st _ h2
          split at h3
          · rename_i hc
            obtain ⟨hc1, hc2⟩ := hc
            have hl : cc.sc.names.lookup y = some .local := by
              cases e <;> simp [isListComp] at hc1
              rename_i elt gens scope pos2
              have q : swC cc.sc y py scope pos2 = true := hc2
              simp only [swC, Bool.and_eq_true, decide_eq_true_eq] at q
              exact q.1.1
            exact cv_ok s h1 hl h3
          · rename_i hc
            simp only [Bool.and_eq_true, Bool.or_eq_true] at h3
            refine snd_set s.xnd (by rw [s.N]; exact h1) a (okX x cc _ h3.2 X' s).pe ?_ b
            rcases h3.1 with h4 | h4
            · exact sw_plain h4
            · cases e <;> simp [isListComp] at h4
              rename_i elt gens scope pos2
              rw [sw_name s.xkind, s.sc]
              have : swC cc.sc y py scope pos2 = false := by
                cases q : swC cc.sc y py scope pos2 with
                | false => rfl
                | true => exact absurd ⟨rfl, q⟩ hc
              rw [this]
        · cases h
      · rename_i hn
        simp only [Bool.and_eq_true, Bool.or_eq_true, Bool.not_eq_true'] at h
        obtain ⟨⟨⟨⟨h1, h2⟩, h3⟩, h4⟩, h5⟩ := h
        have sw : swapsWithSole [tg] e pos.line X'.env = pure false := sw_other (l := pos.line) (env := X'.env) (e := e) h1
        refine snd_asg (okX x cc _ h4 X' s).pe (okT t cc _ h3 X' s) sw ?_ (as_one h2)
        rcases h5 with (h5 | h5) | h5
        · exact st_other h5
        · exact st_plain h5
        · split at h5
          · rename_i ts _ _ vs _ _
            split at h5
            · rename_i hq
              have : kdOf cc = X'.env.kindOf := by funext y; show cc.sc.names.lookup y = X'.env.scope.names.lookup y; rw [s.sc]
              rw [this] at hq
              exact st_par s.xkind hq
            · cases h5
          · cases h5
    · cases h
  | .par is xs, cc, st, h, X', s, hp => by
    unfold chkS at h
    have ek : kdOf cc = X'.env.kindOf := by funext y; show cc.sc.names.lookup y = X'.env.scope.names.lookup y; rw [s.sc]
    split at h
    · simp only [Bool.and_eq_true] at h
      obtain ⟨h0, h⟩ := h
      have L := okXs xs cc _ h0 X' s
      split at h
      · simp only [Bool.and_eq_true, decide_eq_true_eq] at h
        obtain ⟨⟨⟨h1, h2⟩, h3⟩, h4⟩ := h
        split at h4
        · simp only [Bool.and_eq_true, decide_eq_true_eq] at h4
          obtain ⟨a1, a2⟩ := loc_ok h2
          obtain ⟨b1, b2⟩ := loc_ok h3
          obtain ⟨x, y, a, b, rfl, rfl, _, _⟩ := two_of L h4.2
          rw [ek] at h4
          exact snd_par s.calm s.xnd (by rw [s.N]; exact a1) (by rw [s.N]; exact b1) h1 (by rw [s.sc]; exact a2) (by rw [s.sc]; exact b2) L.pa (st_par s.xkind h4.1) rfl
        · cases h4
      · simp only [Bool.and_eq_true, decide_eq_true_eq] at h
        obtain ⟨⟨⟨⟨⟨⟨h1, h1b⟩, h1c⟩, h2⟩, h3⟩, h3b⟩, h4⟩ := h
        split at h4
        · simp only [Bool.and_eq_true, decide_eq_true_eq] at h4
          obtain ⟨a1, a2⟩ := loc_ok h2
          obtain ⟨b1, b2⟩ := loc_ok h3
          obtain ⟨d1, d2⟩ := loc_ok h3b
          obtain ⟨x, y, z, a, b, d, rfl, rfl, _, _, _⟩ := three_of L h4.2
          rw [ek] at h4
          exact snd_par3 s.calm s.xnd (by rw [s.N]; exact a1) (by rw [s.N]; exact b1) (by rw [s.N]; exact d1) h1 h1b h1c (by rw [s.sc]; exact a2) (by rw [s.sc]; exact b2) (by rw [s.sc]; exact d2) L.pa (st_par s.xkind h4.1) rfl
        · cases h4
      · cases h
    · cases h
  | .aug i op x, cc, st, h, X', s, hp => by
    simp only [chkS] at h
    split at h
    · simp only [Bool.and_eq_true, Bool.or_eq_true, decide_eq_true_eq] at h
      obtain ⟨⟨⟨⟨rfl, h1⟩, h2⟩, h3⟩, h4⟩ := h
      obtain ⟨a, b⟩ := s.st _ h3
      exact snd_aug s.xnd (by rw [s.N]; exact h2) a (okX x cc _ h4 X' s).pe h1 b
    · cases h
  | .append a x, cc, st, h, X', s, hp => by
    simp only [chkS] at h
    split at h
    · simp only [Bool.and_eq_true, decide_eq_true_eq] at h
      obtain ⟨⟨⟨⟨⟨rfl, h1⟩, h2⟩, h3⟩, h4⟩, h5⟩ := h
      exact snd_append (okX a cc _ h4 X' s).pe (okX x cc _ h5 X' s).pe (attr_plain h1) h3 (star_cons h2) (few_plain h2)
    · cases h
  | .extend a x, cc, st, h, X', s, hp => by
    simp only [chkS] at h
    split at h
    · simp only [Bool.and_eq_true, decide_eq_true_eq] at h
      obtain ⟨⟨⟨⟨⟨rfl, h1⟩, h2⟩, h3⟩, h4⟩, h5⟩ := h
      exact snd_extend (okX a cc _ h4 X' s).pe (okX x cc _ h5 X' s).pe (attr_plain h1) h3 (star_cons h2) (few_plain h2)
    · cases h
  | .ite x b1 b2, cc, st, h, X', s, hp => by
    simp only [chkS] at h
    split at h
    · simp only [Bool.and_eq_true] at h
      obtain ⟨⟨h1, h2⟩, h3⟩ := h
      exact snd_if (okX x cc _ h1 X' s).pt (okB b1 cc _ h2 X' s hp) (okB b2 cc _ h3 X' s hp)
    · cases h
  | .whl x b, cc, st, h, X', s, hp => by
    simp only [chkS] at h
    split at h
    · simp only [Bool.and_eq_true] at h
      exact snd_while hp (okX x cc _ h.1 X' s).pt (okB b cc _ h.2 X' s hp)
    · cases h
  | .for_ p it b, cc, st, h, X', s, hp => by
    simp only [chkS] at h
    split at h
    · simp only [Bool.and_eq_true] at h
      obtain ⟨⟨h1, h2⟩, h3⟩ := h
      obtain ⟨A, A2⟩ := okI it cc _ _ h1 X' s
      exact snd_for hp s.calm A (okP p cc _ h2 X' s) (okB b cc _ h3 X' s hp) (fun x => it_plain A2)
    · cases h
  | .ret x, cc, st, h, X', s, hp => by
    simp only [chkS] at h
    split at h
    · exact snd_ret (okX x cc _ h X' s).pe
    · cases h
  | .retN, cc, st, h, X', s, hp => by
    simp only [chkS] at h
    split at h
    · exact snd_retN
    · cases h
  | .pass, cc, st, h, X', s, hp => by
    simp only [chkS] at h
    split at h
    · exact snd_pass
    · cases h
  | .brk, cc, st, h, X', s, hp => by
    simp only [chkS] at h
    split at h
    · exact snd_brk
    · cases h
  | .cnt, cc, st, h, X', s, hp => by
    simp only [chkS] at h
    split at h
    · exact snd_cnt
    · cases h
  | .raise k x, cc, st, h, X', s, hp => snd_raise
  | .try_ _ _ _ _, cc, st, h, X', s, hp => snd_never (t := tNext) fun env S f S' h => by simp only [evS] at h; cases h
theorem okB : ∀ (b : List Sm) (cc : Cc) (l : List Stmt), chkB tb b cc l = true → ∀ X', Sta c tb j X' cc → PassesOwn (model X'.prog X'.w) X'.A X'.env X'.xe → PSs X' l (tB c b)
  | [], cc, l, h, X', s, hp => by
    simp only [chkB, List.isEmpty_iff] at h
    subst h
    exact snd_bnil
  | sm :: b, cc, l, h, X', s, hp => by
    simp only [chkB] at h
    split at h
    · simp only [Bool.and_eq_true] at h
      exact snd_bcons (okS sm cc _ h.1 X' s hp) (okB b cc _ h.2 X' s hp)
    · cases h
end
end
end Rx

set_option Elab.async false
set_option autoImplicit false
set_option linter.all false
set_option maxRecDepth 100000
set_option maxHeartbeats 4000000
/-! Rx23: all defs of a module keep the evaluator's word. -/
namespace Rx
open PySem PySem.Spec PyProof.Rows L2
/-- a def of the module: its name, its text, where it stands, its names -/
structure Inf where
  x : Str
  qual : Str
  st : Stmt
  f : Addr
  fd : FuncData
  N : List Str
  ps : List Str
def Inf.cc (I : Inf) : Cc := ⟨I.N, defScope I.st, fun x => match (defScope I.st).names.lookup x with
  | some .local => true
  | some .cell => true
  | _ => false⟩
def scB (N P : List Str) (sc : Scope) : Bool :=
  decide (sc.kind = .function) && !sc.isCoroutine && !sc.isGenerator && decide N.Nodup && decide (N.take P.length = P) && P.all (fun x => decide (sc.names.lookup x = some .local) || decide (sc.names.lookup x = some .cell)) && sc.names.all (fun y => !decide (y.2 = .free))
theorem scB_ok {N P : List Str} {sc : Scope} (h : scB N P sc = true) : FnScope N P sc := by
  unfold scB at h
  simp only [Bool.and_eq_true, Bool.not_eq_true', decide_eq_true_eq, List.all_eq_true, Bool.or_eq_true, decide_eq_false_iff_not] at h
  obtain ⟨⟨⟨⟨⟨⟨h1, h2⟩, h3⟩, h4⟩, h5⟩, h6⟩, h7⟩ := h
  exact ⟨h1, h2, h3, h4, h5, h6, h7⟩
/-- the text of a def is what its term says -/
def infB (tb : Tb) (I : Inf) (F : Fn) : Bool := scB I.N I.ps (defScope I.st) && chkB tb F.body I.cc (defBody I.st) && decide (F.np = I.ps.length) && decide (F.nl = I.N.length)
structure Good (P : Program) (w : World) (K : PySem.W.Frag) (mg : Str → Option Value) (c : Cfg) (tb : Tb) (T : List Fn) (infs : List Inf) : Prop where
  eK : K = c.g.K
  eP : P = c.g.P
  ew : w = c.g.w
  fn : ∀ (i : Nat) (I : Inf), infs[i]? = some I → ∃ F, T[i]? = some F ∧ Fun K I.x I.qual I.st I.f I.fd ∧ L2.Binds K I.fd I.ps [] ∧ c.g.gv i = .ref I.f ∧ infB tb I F = true
  fns : ∀ x i np, (x, i, np) ∈ tb.fns → ∃ I, infs[i]? = some I ∧ I.ps.length = np ∧ mg x = some (.ref I.f)
  cls : ∀ x k i np, (x, k, i, np) ∈ tb.cls → ∃ I, infs[i]? = some I ∧ I.ps.length = np ∧ mg x = some (.ref (c.cl k)) ∧ Mk K (c.cl k) I.f
  mth : ∀ k m i np, (k, m, i, np) ∈ tb.mth → ∃ I, infs[i]? = some I ∧ I.ps.length = np ∧ Cls K (c.cl k) ∧ Meth K (c.cl k) m I.f
  con : ∀ x i, (x, i) ∈ tb.con → ∃ d v u, c.cs i = some d ∧ mg x = some u ∧ RelV v u ∧ ∀ φ H, Rep c.g φ H v d
  blt : ∀ x, x ∈ tb.blt → mg x = none
  fld : ∀ f, f ∈ tb.fld → ∀ k, Cls K (c.cl k) ∧ NoAttr K (c.cl k) f
  kws : ∀ x i ps, (x, i, ps) ∈ tb.kws → ∃ I, infs[i]? = some I ∧ I.ps = ps ∧ mg x = some (.ref I.f) ∧ ∀ (s : Shared) (us : List Value), us.length = ps.length → BindsTo s I.fd ⟨[], ps.zip us⟩ (ps.zip us)
  kds : ∀ x i, (x, i) ∈ tb.kds → ∃ a rows, c.cs i = some (.tup rows) ∧ mg x = some (.ref a) ∧ Kd c.g K w a rows
section
variable {P : Program} {w : World} {K : PySem.W.Frag} {mg : Str → Option Value} {base : Heap} {c : Cfg} {tb : Tb} {T : List Fn} {infs : List Inf}
theorem all_ok (G : Good P w K mg c tb T infs) : ∀ (k i : Nat) (I : Inf), infs[i]? = some I → FnOk P w K mg base CX0 (2 * k) I.f I.fd I.ps (spF { c with cf := evF c.cs T k } i I.ps.length)
  | 0, i, I, hi => ⟨fun vs H Q E ⟨φ, S, ds, d, S', rs, r, hl, ev, kk⟩ => by rw [r.length, hl], fun A outer s H args us vs Q E hr he hb hv ⟨φ, S, ds, d, S', rs, r, hl, ev, kk⟩ => by
      simp only [evF] at ev
      cases ev⟩
  | k + 1, i, I, hi => by
    obtain ⟨F, hT, hF, hB, hg, hc⟩ := G.fn i I hi
    unfold infB at hc
    simp only [Bool.and_eq_true, decide_eq_true_eq] at hc
    obtain ⟨⟨⟨h1, h2⟩, h3⟩, h4⟩ := hc
    have SC := scB_ok h1
    have ih := all_ok G k
    have nf : ∀ {X' : Cx} {i : Nat} {I : Inf}, X'.prog = P → X'.w = w → X'.K = K → X'.mg = mg → X'.base = base → infs[i]? = some I → FnF { c with cf := evF c.cs T k } X' (2 * k) i I.ps.length I.f := fun {X' i I} e1 e2 e3 e4 e5 hi => by
      obtain ⟨F, hT, hF, hB, hg, hc⟩ := G.fn i I hi
      subst e1 e2 e3 e4 e5
      exact ⟨hg, hF.kp, I.fd, I.ps, rfl, hB, ih i I hi⟩
    refine fn_sound hF SC hT h3 rfl h4 fun cdv A outer s H E hr => okB (j := 2 * k) F.body I.cc _ h2 _ ⟨G.eK, G.eP, G.ew, rfl, rfl, SC.nd, rfl, SC.kind, fun x hx => ?_, hr, fun x i np h => ?_, fun x k i np h => ?_, fun k m i np h => ?_, G.con, G.blt, G.fld, fun x i ps h => ?_, G.kds⟩ .never
    · have hx : (match (defScope I.st).names.lookup x with | some .local => true | some .cell => true | _ => false) = true := hx
      refine ⟨?_, .inl rfl⟩
      show (defScope I.st).names.lookup x = some .local ∨ (defScope I.st).names.lookup x = some .cell
      split at hx
      · rename_i e; exact .inl e
      · rename_i e; exact .inr e
      · cases hx
    · obtain ⟨I2, a, b, d⟩ := G.fns x i np h
      subst b
      exact ⟨I2.f, d, nf rfl rfl rfl rfl rfl a⟩
    · obtain ⟨I2, a, b, d, e⟩ := G.cls x k i np h
      subst b
      exact ⟨I2.f, d, e, nf rfl rfl rfl rfl rfl a⟩
    · obtain ⟨I2, a, b, d, e⟩ := G.mth k m i np h
      subst b
      exact ⟨I2.f, d, e, nf rfl rfl rfl rfl rfl a⟩
    · obtain ⟨I2, a, b, d, e⟩ := G.kws x i ps h
      subst b
      obtain ⟨F, hT, hF, hB, hg, hc⟩ := G.fn i I2 a
      exact ⟨I2.f, d, hF.kp, I2.fd, ih i I2 a, e⟩
end
end Rx

set_option Elab.async false
set_option autoImplicit false
set_option linter.all false
set_option maxRecDepth 100000
set_option maxHeartbeats 1000000
/-! RxG: a law's end. -/
namespace Rx
open PySem PySem.Spec PyProof.Rows L2
def spLaw (K : PySem.W.Frag) : Sp := fun vs H Q _ => ∃ (a : Addr) (ns : List Int), vs = [.ref a] ∧ ns.length ≤ 63 ∧ (∀ z ∈ ns, Builtin.Int.intBits z ≤ 1048576) ∧ Only H ∧ SqL K H a (ns.map V.int) ∧ ∀ H', Q (.bl true) H'
/-- what the mathematics shows of a law -/
def LawTrue (cs : Nat → Option D) (T : List Fn) (k i : Nat) : Prop := ∀ ns : List Int, ns.length ≤ 63 → (∀ z ∈ ns, Builtin.Int.intBits z ≤ 1048576) → ∃ S', evF cs T k i [.scr (ns.map D.int)] [] = .ok (.bl true) S'
section
variable {P : Program} {w : World} {K : PySem.W.Frag} {mg : Str → Option Value} {base : Heap} {c : Cfg} {tb : Tb} {T : List Fn} {infs : List Inf}
theorem rs_nil {H : Hp} : RS c.g c.cl [] [] H := ⟨rfl, List.nodup_nil, fun n a o h => by simp at h⟩
theorem law_ok (G : Good P w K mg c tb T infs) {i : Nat} {I : Inf} (hi : infs[i]? = some I) (hps : I.ps.length = 1) {k : Nat} (math : LawTrue c.cs T k i) : FnOk P w K mg base CX0 (2 * k) I.f I.fd I.ps (spLaw K) := by
  have F := all_ok (base := base) G k i I hi
  have conv : ∀ vs H Q E, spLaw K vs H Q E → spF { c with cf := evF c.cs T k } i I.ps.length vs H Q E := fun vs H Q E h => by
    obtain ⟨a, ns, rfl, hl, hb, hO, hS, q⟩ := h
    obtain ⟨S', e⟩ := math ns hl hb
    refine ⟨[], [], [.scr (ns.map D.int)], .bl true, S', rs_nil, .cons (.scr ?_ (repl_ints ns)) .nil, by rw [hps]; rfl, e, fun φ' H' v _ _ r => ?_⟩
    · rw [← G.eK]
      rcases hS with (h | h) | h
      · rcases hO a with z | ⟨o, xs, z⟩
        · rw [z] at h; cases h
        · rw [z] at h; cases h
      · exact .inl h
      · exact .inr h
    · cases r
      exact q H'
  exact ⟨fun vs H Q E h => F.len _ _ _ _ (conv vs H Q E h), fun A outer s H args us vs Q E hr he hb hv h => F.run A outer s H args us vs Q E hr he hb hv (conv vs H Q E h)⟩
end
theorem law_walk {l : PySem.W.OpenLaw} {q : Program} {loose : List Str} {XP : (Str → Option Value) → Heap → Prop} {YP : World → Heap → Prop} {d : DefRec} {K : Params → PySem.W.Frag} {k : Nat} {x : Str} (hn : l.most = some 63) (hdf : d.params.defaults = []) (hr : Room k callerA)
    (hY : ∀ (w : World) (h : Heap), YP w h → (K w.params).In h)
    (F : ∀ (w : World) (mg : Str → Option Value) (fa : Addr) (h : Heap), (K w.params).In h → h.Ns mainGlobals mg → mg d.name = some (.ref fa) →
      ∃ fd : FuncData, (∀ (s : Shared) (u : Value), BindsTo s fd ⟨[u], []⟩ [(x, u)]) ∧ ∀ base : Heap, (K w.params).In base → base.Ns mainGlobals mg → FnOk l.prog w (K w.params) mg base CX0 k fa fd [x] (spLaw (K w.params))) :
    PySem.W.WalkO q loose XP YP l.row.toRowW d [] (fun f vs => PySem.call f vs) :=
  L2.walk_ofB (n := 63) (k := k) (x := x) (CX := fun _ => CX0) (sp := fun w => spLaw (K w.params)) hn (by decide) hdf hr hY F (fun _ H a ns hl hb hO hS => ⟨a, ns, rfl, hl, hb, hO, hS, fun _ => rfl⟩) fun _ _ _ _ _ z => z
/-- each of a list, by its place -/
inductive Each (P : Nat → Inf → Prop) : Nat → List Inf → Prop where
  | nil {n : Nat} : Each P n []
  | cons {n : Nat} {I : Inf} {l : List Inf} : P n I → Each P (n + 1) l → Each P n (I :: l)
theorem Each.get {P : Nat → Inf → Prop} : ∀ {l : List Inf} {n : Nat}, Each P n l → ∀ i I, l[i]? = some I → P (n + i) I
  | [], _, _, i, I, h => by simp at h
  | J :: l, n, .cons p r, 0, I, h => by
    simp at h
    subst h
    exact p
  | J :: l, n, .cons p r, i + 1, I, h => by
    have := Each.get r i I (by simpa using h)
    rw [show n + (i + 1) = n + 1 + i by omega]
    exact this
inductive AllM {α : Type} (P : α → Prop) : List α → Prop where
  | nil : AllM P []
  | cons {a : α} {l : List α} : P a → AllM P l → AllM P (a :: l)
theorem AllM.get {α : Type} {P : α → Prop} : ∀ {l : List α}, AllM P l → ∀ a, a ∈ l → P a
  | [], _, a, h => by cases h
  | b :: l, .cons p r, a, h => by
    rcases List.mem_cons.mp h with e | h
    · rw [e]; exact p
    · exact r.get a h
/-- what of a def the look needs -/
def infOf (st : Stmt) (N ps : List Str) : Inf := ⟨Str.empty, Str.empty, st, 0, default, N, ps⟩
theorem infB_mk {tb : Tb} {F : Fn} {st : Stmt} {N ps : List Str} (x q : Str) (f : Addr) (fd : FuncData) : infB tb ⟨x, q, st, f, fd, N, ps⟩ F = infB tb (infOf st N ps) F := rfl
section
variable {K : PySem.W.Frag} {x qual : Str} {st : Stmt} {f : Addr} {fd : FuncData} {ps : List Str}
theorem kw_binds (F : Fun K x qual st f fd) (h : ∀ (kV doc pm : Value) (an : Option Addr) (cdv ct : Value) (us : List Value), us.length = ps.length → bindArgs (PySem.W.fnOf x qual (defArgs st) (defBody st) (defScope st) .none kV doc pm an cdv ct) ⟨[], ps.zip us⟩ = pure (ps.zip us)) (s : Shared) (us : List Value) (hl : us.length = ps.length) :
    BindsTo s fd ⟨[], ps.zip us⟩ (ps.zip us) := by
  obtain ⟨oc, od, kV, doc, pm, an, cdv, ct, osl, rfl, lk, hcd⟩ := F.ex
  exact .of_eq (h kV doc pm an cdv ct us hl)
theorem law_binds {y : Str} (F : Fun K x qual st f fd) (h : ∀ (kV doc pm : Value) (an : Option Addr) (cdv ct u : Value), bindArgs (PySem.W.fnOf x qual (defArgs st) (defBody st) (defScope st) .none kV doc pm an cdv ct) ⟨[u], []⟩ = pure [(y, u)]) (s : Shared) (u : Value) : BindsTo s fd ⟨[u], []⟩ [(y, u)] := by
  obtain ⟨oc, od, kV, doc, pm, an, cdv, ct, osl, rfl, lk, hcd⟩ := F.ex
  exact .of_eq (h kV doc pm an cdv ct u)
end
/-- the classes by number -/
def clOf (cls : List Addr) : Nat → Addr := fun i => cls.getD i (cls.headD 0)
theorem clOf_mem {cls : List Addr} (k : Nat) (h : 0 < cls.length) : clOf cls k ∈ cls := by
  unfold clOf
  rw [List.getD_eq_getElem?_getD]
  by_cases hk : k < cls.length
  · rw [List.getElem?_eq_getElem hk]
    exact List.getElem_mem hk
  · rw [List.getElem?_eq_none (by omega)]
    cases cls with
    | nil => simp at h
    | cons a l => simp
end Rx

/-! the terms of the defs, printed by gen.py -/
namespace K66
open PySem L2 Rx
def top (i : Nat) : Stmt := PySem.Challenge.pw_leastpromise_k66_whole_any_papers_of_wha.main.body.getD i (.Pass ⟨0, 0, 0, 0⟩)
/-- law -/
def b0 : List Sm := [
  .asg (.nm 1) (.call 1 [.var 0, .lit (.int 66)]),
  .asg (.tup [.nm 2, .nm 3, .nm 4, .nm 5, .nm 6]) (.call 2 [.var 1]),
  .asg (.nm 7) (.call 3 [.var 2, .var 3, .var 4, .var 5]),
  .ite (.not (.call 4 [.var 2, .var 3, .var 4, .var 6, .var 7])) [.ret (.lit (.bl false))] [],
  .asg (.nm 8) (.bin .add (.val (.disp [.var 7, .val (.list (.var 7)), .slice (.var 7) [] [.lit (.int 1)], .bin .add (.var 7) (.tup [.tup []]), .lit .non])) (.val (.comp [11] (.call 5 [.var 1, .var 7]) (.nm 11) (.rng [.lit (.int 8)]) []))),
  .for_ (.nm 9) (.src (.bin .add (.var 8) (.call 6 [.var 1, .var 2, .var 3, .var 4, .var 7]))) [.asg (.nm 10) (.call 4 [.var 2, .var 3, .var 4, .var 6, .var 9]), .ite (.cmp .ne (.bi .repr [.call 7 [.var 2, .var 3, .var 4, .var 5, .var 9]]) (.bi .repr [.var 10])) [.ret (.lit (.bl false))] []],
  .ret (.lit (.bl true))]
def f0 : Fn := ⟨1, 12, b0, true⟩
abbrev s0 : Stmt := top 72
def n0 : List Str := ["_law_script", "_law_well_here", "_law_frame", "_law_lot", "_law_data_here", "_law_program", "_law_wanted", "_law_told", "_law_values", "_law_value", "_law_due", "_law_turn"]
def p0 : List Str := ["_law_script"]
/-- _law_well -/
def b1 : List Sm := [
  .par [2, 3] [.own (.disp []), .bin .add (.lit (.int 48611)) (.bin .mul (.lit (.int 31)) (.var 1))],
  .for_ (.nm 4) (.src (.slice (.var 0) [] [.lit (.int 40)])) [.asg (.nm 3) (.bin .mod (.bin .add (.bin .add (.bin .mul (.var 3) (.lit (.int 69069))) (.bin .mod (.bi .abs [.var 4]) (.lit (.int 2147483587)))) (.lit (.int 5))) (.lit (.int 2147483579))), .ite (.cmp .ge (.bi .abs [.var 4]) (.bin .pow (.lit (.int 10)) (.lit (.int 18)))) [.append (.var 2) (.bi .abs [.var 4])] []],
  .ret (.own (.disp [.var 2, .var 3]))]
def f1 : Fn := ⟨2, 5, b1, false⟩
abbrev s1 : Stmt := top 50
def n1 : List Str := ["_law_script", "_law_salt", "_law_great", "_law_mixed", "_law_cell"]
def p1 : List Str := ["_law_script", "_law_salt"]
/-- _law_task -/
def b2 : List Sm := [
  .asg (.nm 1) (.bi .tuple [.val (.comp [5] (.bi .tuple [.val (.comp [11] (.call 8 [.var 0, .lit (.int 2)]) (.nm 11) (.rng [.lit (.int 4)]) [])]) (.nm 5) (.rng [.call 8 [.var 0, .lit (.int 3)]]) [])]),
  .asg (.nm 2) (.tup [.lit (.int 2), .bin .add (.lit (.int 1)) (.call 8 [.var 0, .lit (.int 3)]), .lit (.int 0), .var 1, .call 8 [.var 0, .lit (.int 3)]]),
  .asg (.nm 3) (.bi .tuple [.val (.comp [9] (.var 9) (.nm 9) (.rng [.lit (.int 10)]) [.cmp .eq (.call 8 [.var 0, .lit (.int 3)]) (.lit (.int 0))])]),
  .asg (.nm 4) (.own (.disp [])),
  .for_ (.nm 5) (.rng [.bin .add (.lit (.int 1)) (.call 8 [.var 0, .lit (.int 4)])]) [.asg (.nm 8) (.call 9 [.var 0, .call 10 [.var 2]]), .ite (.cmp .notin (.var 8) (.var 4)) [.append (.var 4) (.var 8)] []],
  .asg (.nm 6) (.call 11 [.var 0, .var 2, .lit (.int 3), .lit (.int 2)]),
  .asg (.nm 7) (.val (.comp [8] (.idx (.call 12 [.var 2, .call 13 [.var 6], .var 8, .lit (.int 0), .tup []]) (.lit (.int 1))) (.nm 8) (.src (.var 4)) [])),
  .ret (.tup [.var 2, .var 3, .var 4, .var 6, .val (.comp [10] (.bi .tuple [.val (.comp [12] (.idx (.var 12) (.var 10)) (.nm 12) (.src (.var 7)) [])]) (.nm 10) (.rng [.idx (.var 2) (.lit (.int 1))]) [])])]
def f2 : Fn := ⟨1, 13, b2, true⟩
abbrev s2 : Stmt := top 69
def n2 : List Str := ["_law_well_here", "_law_tables", "_law_frame", "_law_lot", "_law_data_here", "_law_turn", "_law_program", "_law_ends", "_law_datum", "_law_atom", "_law_spot", "_law_cell", "_law_end"]
def p2 : List Str := ["_law_well_here"]
/-- straight_paper -/
def b3 : List Sm := [
  .asg (.nm 0) (.call 14 [.var 0]),
  .par [1, 2] [.call 15 [.var 1], .call 16 [.var 0, .var 2]],
  .asg (.nm 4) (.call 17 [.var 0, .var 2, .var 3]),
  .asg (.nm 5) (.new 0 18 [.var 0, .var 1, .var 2]),
  .expr (.meth (.var 5) 0 19 "grow" [.var 4]),
  .ite (.not (.meth (.var 5) 0 20 "has_all" [.var 4])) [.ret (.tup [.lit (.str "lot"), .bi .tuple [.val (.sorted (.attr (.var 5) "rows") false)]])] [],
  .asg (.tup [.nm 6, .nm 7]) (.call 21 [.var 0, .var 2, .var 5, .var 4]),
  .ret (.tup [.lit (.str "way"), .var 6, .var 7])]
def f3 : Fn := ⟨4, 8, b3, true⟩
abbrev s3 : Stmt := top 45
def n3 : List Str := ["frame", "lot", "data", "program", "wanted", "silent", "steps", "ends"]
def p3 : List Str := ["frame", "lot", "data", "program"]
/-- _law_holds -/
def b4 : List Sm := [
  .ite (.or [.not (.bi (.isa [.tuple]) [.var 4]), .cmp .notin (.bi .len [.var 4]) (.tup [.lit (.int 2), .lit (.int 3)]), .not (.bi (.isa [.str]) [.idx (.var 4) (.lit (.int 0))])]) [.ret (.lit (.bl false))] [],
  .ite (.cmp .eq (.bi .len [.var 4]) (.lit (.int 3))) [.ret (.and [.cmp .eq (.idx (.var 4) (.lit (.int 0))) (.lit (.str "way")), .call 22 [.var 0, .var 1, .var 2, .var 3, .idx (.var 4) (.lit (.int 1)), .idx (.var 4) (.lit (.int 2))]])] [],
  .ret (.and [.cmp .eq (.idx (.var 4) (.lit (.int 0))) (.lit (.str "lot")), .call 23 [.var 0, .var 1, .var 2, .var 3, .idx (.var 4) (.lit (.int 1))]])]
def f4 : Fn := ⟨5, 5, b4, true⟩
abbrev s4 : Stmt := top 68
def n4 : List Str := ["_law_frame", "_law_lot", "_law_data_here", "_law_wanted", "_law_value"]
def p4 : List Str := ["_law_frame", "_law_lot", "_law_data_here", "_law_wanted", "_law_value"]
/-- _law_spoilt -/
def b5 : List Sm := [
  .ite (.and [.bi (.isa [.tuple]) [.var 1], .cmp .ne (.var 1) (.tup []), .cmp .gt (.call 8 [.var 0, .lit (.int 7)]) (.lit (.int 0))]) [.asg (.nm 2) (.call 8 [.var 0, .bi .len [.var 1]]), .asg (.nm 3) (.call 8 [.var 0, .lit (.int 6)]), .ite (.cmp .eq (.var 3) (.lit (.int 0))) [.ret (.bin .add (.slice (.var 1) [] [.var 2]) (.slice (.var 1) [.bin .add (.var 2) (.lit (.int 1))] []))] [], .ite (.cmp .eq (.var 3) (.lit (.int 1))) [.ret (.bin .add (.slice (.var 1) [] [.bin .add (.var 2) (.lit (.int 1))]) (.slice (.var 1) [.var 2] []))] [], .ret (.bin .add (.bin .add (.slice (.var 1) [] [.var 2]) (.tup [.call 5 [.var 0, .idx (.var 1) (.var 2)]])) (.slice (.var 1) [.bin .add (.var 2) (.lit (.int 1))] []))] [],
  .ret (.call 9 [.var 0, .val (.disp [.lit .non, .lit (.int 0), .lit (.int 1), .lit (.int 2), .neg (.lit (.int 1)), .lit (.bl true), .lit (.str "way"), .lit (.str "lot"), .tup [], .val (.disp [.lit (.int 0)]), .tup [.lit (.int 0), .lit (.int 1)], .tup [.lit (.int 0), .lit (.int 0), .lit (.int 0)]])])]
def f5 : Fn := ⟨2, 4, b5, true⟩
abbrev s5 : Stmt := top 70
def n5 : List Str := ["_law_well_here", "_law_value", "_law_at", "_law_kind"]
def p5 : List Str := ["_law_well_here", "_law_value"]
/-- _law_others -/
def b6 : List Sm := [
  .asg (.nm 5) (.bi .len [.var 3]),
  .asg (.nm 6) (.bi .tuple [.val (.comp [13] (.call 8 [.var 0, .lit (.int 2)]) (.nm 13) (.rng [.var 5]) [])]),
  .asg (.nm 7) (.call 24 [.var 1, .var 2, .bin .add (.call 25 [.var 1, .var 3]) (.val (.disp [.var 6]))]),
  .asg (.nm 8) (.call 24 [.var 1, .var 2, .call 25 [.var 1, .var 3]]),
  .asg (.nm 9) (.own (.disp [.tup [.lit (.str "lot"), .var 7], .tup [.lit (.str "lot"), .var 8], .tup [.lit (.str "lot"), .slice (.var 8) [.lit (.int 1)] []], .tup [.lit (.str "lot"), .rev (.var 8)], .tup [.lit (.str "lot"), .bin .add (.var 8) (.slice (.var 8) [.neg (.lit (.int 1))] [])]])),
  .ite (.cmp .eq (.idx (.var 4) (.lit (.int 0))) (.lit (.str "way"))) [.asg (.tup [.nm 10, .nm 11]) (.slice (.var 4) [.lit (.int 1)] []), .asg (.nm 12) (.val (.comp [13] (.call 8 [.var 0, .bin .add (.idx (.var 1) (.lit (.int 1))) (.bi .len [.var 10])]) (.nm 13) (.rng [.lit (.int 2)]) [])), .append (.var 9) (.tup [.lit (.str "way"), .bin .add (.var 10) (.tup [.bin .add (.tup [.call 8 [.var 0, .lit (.int 3)]]) (.bi .tuple [.var 12])]), .var 11]), .append (.var 9) (.tup [.lit (.str "way"), .bin .add (.var 10) (.tup [.tup [.lit (.int 0), .idx (.var 12) (.lit (.int 0)), .idx (.var 12) (.lit (.int 0))]]), .bin .add (.slice (.var 11) [] [.neg (.lit (.int 1))]) (.tup [.bin .add (.idx (.var 1) (.lit (.int 1))) (.bi .len [.var 10])])]), .extend (.var 9) (.val (.disp [.tup [.lit (.str "way"), .slice (.var 10) [] [.neg (.lit (.int 1))], .var 11], .tup [.lit (.str "way"), .var 10, .rev (.var 11)], .tup [.lit (.str "way"), .var 10, .slice (.var 11) [.lit (.int 1)] []]]))] [.append (.var 9) (.tup [.lit (.str "way"), .tup [], .tupr [.idx (.var 1) (.lit (.int 1))]]), .append (.var 9) (.tup [.lit (.str "way"), .tup [.tup [.lit (.int 0), .lit (.int 0), .lit (.int 0)]], .bin .mul (.tup [.idx (.var 1) (.lit (.int 1))]) (.idx (.var 1) (.lit (.int 1)))])],
  .ret (.var 9)]
def f6 : Fn := ⟨5, 14, b6, true⟩
abbrev s6 : Stmt := top 71
def n6 : List Str := ["_law_well_here", "_law_frame", "_law_lot", "_law_data_here", "_law_told", "_law_many", "_law_row", "_law_greater", "_law_least", "_law_found", "_law_steps", "_law_ends", "_law_spots", "_law_turn"]
def p6 : List Str := ["_law_well_here", "_law_frame", "_law_lot", "_law_data_here", "_law_told"]
/-- straight_holds -/
def b7 : List Sm := [
  .asg (.nm 0) (.call 14 [.var 0]),
  .par [1, 2] [.call 15 [.var 1], .call 16 [.var 0, .var 2]],
  .asg (.nm 5) (.call 17 [.var 0, .var 2, .var 3]),
  .ite (.or [.not (.bi (.isa [.tuple]) [.var 4]), .cmp .notin (.bi .len [.var 4]) (.tup [.lit (.int 2), .lit (.int 3)]), .not (.call 26 [.idx (.var 4) (.lit (.int 0))])]) [.ret (.lit (.bl false))] [],
  .ite (.cmp .eq (.bi .len [.var 4]) (.lit (.int 3))) [.ret (.and [.cmp .eq (.idx (.var 4) (.lit (.int 0))) (.lit (.str "way")), .call 27 [.var 0, .var 1, .var 2, .var 5, .idx (.var 4) (.lit (.int 1)), .idx (.var 4) (.lit (.int 2))]])] [],
  .ite (.or [.cmp .ne (.idx (.var 4) (.lit (.int 0))) (.lit (.str "lot")), .not (.call 28 [.var 0, .var 1, .var 2, .idx (.var 4) (.lit (.int 1))])]) [.ret (.lit (.bl false))] [],
  .ret (.not (.bi .all [.val (.comp [6] (.cmp .in_ (.var 6) (.idx (.var 4) (.lit (.int 1)))) (.nm 6) (.src (.var 5)) [])]))]
def f7 : Fn := ⟨5, 7, b7, true⟩
abbrev s7 : Stmt := top 48
def n7 : List Str := ["frame", "lot", "data", "program", "value", "wanted", "row"]
def p7 : List Str := ["frame", "lot", "data", "program", "value"]
/-- _law_drawn -/
def b8 : List Sm := [
  .whl (.and [.cmp .gt (.bi .len [.idx (.var 0) (.lit (.int 0))]) (.lit (.int 0)), .cmp .eq (.idx (.idx (.var 0) (.lit (.int 0))) (.neg (.lit (.int 1)))) (.lit (.int 0))]) [.expr (.pop (.idx (.var 0) (.lit (.int 0))) [])],
  .ite (.cmp .gt (.bi .len [.idx (.var 0) (.lit (.int 0))]) (.lit (.int 0))) [.asg (.nm 2) (.pop (.idx (.var 0) (.lit (.int 0))) []), .append (.idx (.var 0) (.lit (.int 0))) (.bin .fdiv (.var 2) (.var 1)), .ret (.bin .mod (.var 2) (.var 1))] [],
  .asg (.sub (.var 0) (.lit (.int 1))) (.bin .mod (.bin .add (.bin .mul (.idx (.var 0) (.lit (.int 1))) (.lit (.int 62089911))) (.lit (.int 4349))) (.lit (.int 2147483579))),
  .ret (.bin .mod (.bin .fdiv (.idx (.var 0) (.lit (.int 1))) (.lit (.int 97))) (.var 1))]
def f8 : Fn := ⟨2, 3, b8, true⟩
abbrev s8 : Stmt := top 51
def n8 : List Str := ["_law_well_here", "_law_many", "_law_rest"]
def p8 : List Str := ["_law_well_here", "_law_many"]
/-- _law_one_of -/
def b9 : List Sm := [
  .ret (.idx (.var 1) (.call 8 [.var 0, .bi .len [.var 1]]))]
def f9 : Fn := ⟨2, 2, b9, true⟩
abbrev s9 : Stmt := top 52
def n9 : List Str := ["_law_well_here", "_law_things"]
def p9 : List Str := ["_law_well_here", "_law_things"]
/-- _law_data -/
def b10 : List Sm := [
  .asg (.nm 1) (.val (.disp [.tup []])),
  .for_ (.nm 2) (.rng [.bin .add (.idx (.var 0) (.lit (.int 1))) (.idx (.var 0) (.lit (.int 2)))]) [.asg (.nm 1) (.bin .add (.val (.comp [3] (.bin .add (.var 3) (.tup [.lit (.int 0)])) (.nm 3) (.src (.var 1)) [])) (.val (.comp [3] (.bin .add (.var 3) (.tup [.lit (.int 1)])) (.nm 3) (.src (.var 1)) [])))],
  .ret (.val (.sorted (.var 1) false))]
def f10 : Fn := ⟨1, 4, b10, true⟩
abbrev s10 : Stmt := top 60
def n10 : List Str := ["_law_frame", "_law_rows_here", "_law_turn", "_law_row"]
def p10 : List Str := ["_law_frame"]
/-- _law_rows -/
def b11 : List Sm := [
  .asg (.nm 4) (.own (.disp [])),
  .for_ (.nm 5) (.rng [.call 8 [.var 0, .bin .add (.var 2) (.lit (.int 1))]]) [.asg (.nm 6) (.call 8 [.var 0, .lit (.int 8)]), .asg (.nm 7) (.val (.comp [9] (.call 8 [.var 0, .idx (.var 1) (.lit (.int 1))]) (.nm 9) (.rng [.lit (.int 3)]) [])), .ite (.and [.cmp .lt (.var 6) (.lit (.int 2)), .cmp .gt (.var 3) (.lit (.int 0))]) [.asg (.nm 8) (.val (.comp [10] (.call 11 [.var 0, .var 1, .lit (.int 4), .bin .sub (.var 3) (.lit (.int 1))]) (.nm 10) (.rng [.lit (.int 2)]) [])), .append (.var 4) (.tup [.lit (.str "fork"), .idx (.var 7) (.lit (.int 0)), .idx (.var 8) (.lit (.int 0)), .idx (.var 8) (.lit (.int 1))])] [.ite (.and [.cmp .eq (.var 6) (.lit (.int 2)), .cmp .gt (.var 3) (.lit (.int 0))]) [.append (.var 4) (.tup [.lit (.str "loop"), .call 8 [.var 0, .lit (.int 3)], .call 11 [.var 0, .var 1, .lit (.int 2), .bin .sub (.var 3) (.lit (.int 1))]])] [.ite (.cmp .eq (.var 6) (.lit (.int 3))) [.append (.var 4) (.ite (.or [.cmp .eq (.idx (.var 1) (.lit (.int 2))) (.lit (.int 0)), .cmp .eq (.call 8 [.var 0, .lit (.int 3)]) (.lit (.int 0))]) (.tup [.lit (.str "fence")]) (.tup [.lit (.str "store"), .idx (.var 7) (.lit (.int 0)), .idx (.var 7) (.lit (.int 1))]))] [.ite (.and [.cmp .eq (.var 6) (.lit (.int 4)), .cmp .gt (.idx (.var 1) (.lit (.int 2))) (.lit (.int 0))]) [.append (.var 4) (.tup [.lit (.str "load"), .idx (.var 7) (.lit (.int 0)), .idx (.var 7) (.lit (.int 1))])] [.ite (.cmp .eq (.idx (.var 1) (.lit (.int 3))) (.tup [])) [.append (.var 4) (.tup [.lit (.str "fence")])] [.append (.var 4) (.bin .add (.tup [.lit (.str "op"), .lit (.int 0)]) (.bi .tuple [.var 7]))]]]]]],
  .ret (.bi .tuple [.var 4])]
def f11 : Fn := ⟨4, 11, b11, true⟩
abbrev s11 : Stmt := top 59
def n11 : List Str := ["_law_well_here", "_law_frame", "_law_most", "_law_deep", "_law_found", "_law_turn", "_law_kind", "_law_spots", "_law_sides", "_law_three", "_law_side"]
def p11 : List Str := ["_law_well_here", "_law_frame", "_law_most", "_law_deep"]
/-- _law_run -/
def b12 : List Sm := [
  .asg (.nm 5) (.own (.disp [])),
  .for_ (.tup [.nm 6, .nm 7]) (.enum (.var 1)) [.ite (.cmp .eq (.idx (.var 7) (.lit (.int 0))) (.lit (.str "fork"))) [.asg (.nm 8) (.ite (.cmp .eq (.idx (.var 2) (.idx (.var 7) (.lit (.int 1)))) (.lit (.int 0))) (.lit (.int 0)) (.lit (.int 1))), .append (.var 5) (.tup [.tup [.lit (.str "fork"), .var 8], .call 29 [.var 0, .idx (.var 7) (.bin .sub (.lit (.int 3)) (.var 8)), .var 2, .var 3], .bin .add (.var 4) (.tup [.var 6, .bin .sub (.lit (.int 1)) (.var 8)])]), .asg (.tup [.nm 9, .nm 2]) (.call 12 [.var 0, .idx (.var 7) (.bin .add (.lit (.int 2)) (.var 8)), .var 2, .var 3, .bin .add (.var 4) (.tup [.var 6, .var 8])]), .extend (.var 5) (.var 9)] [.asg (.tup [.nm 10, .nm 2]) (.call 30 [.var 0, .var 7, .var 2]), .append (.var 5) (.tup [.var 10, .tup [], .lit .non])]],
  .ret (.tup [.var 5, .var 2])]
def f12 : Fn := ⟨5, 11, b12, true⟩
abbrev s12 : Stmt := top 56
def n12 : List Str := ["_law_frame", "_law_rows_here", "_law_datum", "_law_deep", "_law_path", "_law_steps", "_law_at", "_law_row", "_law_side", "_law_more", "_law_event"]
def p12 : List Str := ["_law_frame", "_law_rows_here", "_law_datum", "_law_deep", "_law_path"]
/-- _law_flat -/
def b13 : List Sm := [
  .asg (.nm 1) (.own (.disp [])),
  .for_ (.nm 2) (.src (.var 0)) [.ite (.cmp .eq (.idx (.var 2) (.lit (.int 0))) (.lit (.str "loop"))) [.extend (.var 1) (.bin .mul (.call 13 [.idx (.var 2) (.lit (.int 2))]) (.idx (.var 2) (.lit (.int 1))))] [.ite (.cmp .eq (.idx (.var 2) (.lit (.int 0))) (.lit (.str "fork"))) [.append (.var 1) (.bin .add (.slice (.var 2) [] [.lit (.int 2)]) (.tup [.bi .tuple [.call 13 [.idx (.var 2) (.lit (.int 2))]], .bi .tuple [.call 13 [.idx (.var 2) (.lit (.int 3))]]]))] [.append (.var 1) (.var 2)]]],
  .ret (.var 1)]
def f13 : Fn := ⟨1, 3, b13, true⟩
abbrev s13 : Stmt := top 53
def n13 : List Str := ["_law_rows_here", "_law_found", "_law_row"]
def p13 : List Str := ["_law_rows_here"]
/-- need_bare -/
def b14 : List Sm := [
  .asg (.nm 0) (.call 31 [.var 0]),
  .ite (.cmp .gt (.idx (.var 0) (.lit (.int 2))) (.lit (.int 0))) [.raise 0 (.lit .non)] [],
  .ret (.var 0)]
def f14 : Fn := ⟨1, 1, b14, true⟩
abbrev s14 : Stmt := top 38
def n14 : List Str := ["frame"]
def p14 : List Str := ["frame"]
/-- need_lot -/
def b15 : List Sm := [
  .ite (.not (.call 32 [.var 0])) [.raise 0 (.lit .non)] [],
  .for_ (.tup [.nm 1, .nm 2]) (.enum (.var 0)) [.ite (.or [.not (.call 33 [.var 2, .con 0]), .and [.cmp .gt (.var 1) (.lit (.int 0)), .cmp .le (.var 2) (.idx (.var 0) (.bin .sub (.var 1) (.lit (.int 1))))]]) [.raise 0 (.lit .non)] []],
  .ret (.bi .tuple [.var 0])]
def f15 : Fn := ⟨1, 3, b15, true⟩
abbrev s15 : Stmt := top 34
def n15 : List Str := ["value", "at", "one"]
def p15 : List Str := ["value"]
/-- need_few_data -/
def b16 : List Sm := [
  .asg (.nm 2) (.call 34 [.var 0, .var 1]),
  .ite (.not (.chain .le .le (.lit (.int 1)) (.bi .len [.var 2]) (.con 1))) [.raise 0 (.lit .non)] [],
  .ret (.var 2)]
def f16 : Fn := ⟨2, 3, b16, true⟩
abbrev s16 : Stmt := top 39
def n16 : List Str := ["frame", "value", "data"]
def p16 : List Str := ["frame", "value"]
/-- wanted_rows -/
def b17 : List Sm := [
  .asg (.nm 3) (.call 35 [.call 36 [.var 0, .var 2]]),
  .asg (.nm 4) (.val (.comp [5] (.idx (.call 37 [.var 0, .var 3, .var 5]) (.lit (.int 1))) (.nm 5) (.src (.var 1)) [])),
  .ret (.val (.comp [6] (.bi .tuple [.val (.comp [7] (.idx (.var 7) (.var 6)) (.nm 7) (.src (.var 4)) [])]) (.nm 6) (.rng [.idx (.var 0) (.lit (.int 1))]) []))]
def f17 : Fn := ⟨3, 8, b17, true⟩
abbrev s17 : Stmt := top 43
def n17 : List Str := ["frame", "data", "program", "rows", "ends", "datum", "spot", "end"]
def p17 : List Str := ["frame", "data", "program"]
/-- Silent.__init__ -/
def b18 : List Sm := [
  .asg (.tup [.attr (.var 0) "frame", .attr (.var 0) "lot"]) (.tup [.var 1, .var 2]),
  .asg (.attr (.var 0) "rows") (.own (.comp [4] (.bi .tuple [.val (.comp [6] (.idx (.var 6) (.var 4)) (.nm 6) (.src (.var 3)) [])]) (.nm 4) (.rng [.idx (.var 1) (.lit (.int 1))]) [])),
  .asg (.attr (.var 0) "ways") (.dcomp [5] (.var 5) (.lit .non) (.nm 5) (.src (.attr (.var 0) "rows")) [])]
def f18 : Fn := ⟨4, 7, b18, true⟩
abbrev s18 : Stmt := inClass (top 42) 0
def n18 : List Str := ["self", "frame", "lot", "data", "spot", "row", "datum"]
def p18 : List Str := ["self", "frame", "lot", "data"]
/-- Silent.grow -/
def b19 : List Sm := [
  .asg (.tup [.attr (.var 0) "rows", .nm 2]) (.tup [.own (.sorted (.val (.keys (.attr (.var 0) "ways"))) false), .lit (.int 0)]),
  .whl (.and [.cmp .lt (.var 2) (.bi .len [.attr (.var 0) "rows"]), .not (.meth (.var 0) 0 20 "has_all" [.var 1])]) [.for_ (.nm 3) (.src (.val (.list (.slice (.attr (.var 0) "rows") [] [.bin .add (.var 2) (.lit (.int 1))])))) [.expr (.meth (.var 0) 0 38 "put_answers" [.var 3, .idx (.attr (.var 0) "rows") (.var 2)]), .expr (.meth (.var 0) 0 38 "put_answers" [.idx (.attr (.var 0) "rows") (.var 2), .var 3])], .aug 2 .add (.lit (.int 1))]]
def f19 : Fn := ⟨2, 4, b19, true⟩
abbrev s19 : Stmt := inClass (top 42) 2
def n19 : List Str := ["self", "wanted", "at", "before"]
def p19 : List Str := ["self", "wanted"]
/-- Silent.has_all -/
def b20 : List Sm := [
  .ret (.bi .all [.val (.comp [2] (.din false (.var 2) (.attr (.var 0) "ways")) (.nm 2) (.src (.var 1)) [])])]
def f20 : Fn := ⟨2, 3, b20, true⟩
abbrev s20 : Stmt := inClass (top 42) 1
def n20 : List Str := ["self", "wanted", "row"]
def p20 : List Str := ["self", "wanted"]
/-- steps_to -/
def b21 : List Sm := [
  .asg (.tup [.nm 4, .nm 5]) (.tup [.dnew, .own (.disp [])]),
  .for_ (.nm 6) (.rng [.idx (.var 0) (.lit (.int 1))]) [.expr (.dsetd (.var 4) (.bi .tuple [.val (.comp [11] (.idx (.var 11) (.var 6)) (.nm 11) (.src (.var 1)) [])]) (.var 6))],
  .for_ (.nm 7) (.src (.attr (.var 2) "rows")) [.ite (.din true (.var 7) (.var 4)) [.asg (.tup [.nm 8, .nm 9, .nm 10]) (.dix (.attr (.var 2) "ways") (.var 7)), .asg (.dsub (.var 4) (.var 7)) (.bin .add (.idx (.var 0) (.lit (.int 1))) (.bi .len [.var 5])), .append (.var 5) (.tup [.var 8, .dix (.var 4) (.var 9), .dix (.var 4) (.var 10)])] []],
  .ret (.tup [.bi .tuple [.var 5], .bi .tuple [.val (.comp [7] (.dix (.var 4) (.var 7)) (.nm 7) (.src (.var 3)) [])]])]
def f21 : Fn := ⟨4, 12, b21, true⟩
abbrev s21 : Stmt := top 44
def n21 : List Str := ["frame", "data", "silent", "wanted", "numbers", "steps", "spot", "row", "table", "one", "other", "datum"]
def p21 : List Str := ["frame", "data", "silent", "wanted"]
/-- _law_is_way -/
def b22 : List Sm := [
  .asg (.nm 6) (.call 25 [.var 0, .var 2]),
  .ite (.or [.not (.bi (.isa [.tuple]) [.var 4]), .not (.bi (.isa [.tuple]) [.var 5]), .cmp .ne (.bi .len [.var 5]) (.idx (.var 0) (.lit (.int 1)))]) [.ret (.lit (.bl false))] [],
  .for_ (.nm 7) (.src (.var 4)) [.ite (.or [.not (.bi (.isa [.tuple]) [.var 7]), .cmp .ne (.bi .len [.var 7]) (.lit (.int 3)), .not (.call 39 [.idx (.var 7) (.lit (.int 0)), .bi .len [.idx (.var 0) (.lit (.int 3))]])]) [.ret (.lit (.bl false))] [], .ite (.cmp .ne (.val (.comp [8] (.var 8) (.nm 8) (.src (.slice (.var 7) [.lit (.int 1)] [])) [.not (.call 39 [.var 8, .bi .len [.var 6]])])) (.val (.disp []))) [.ret (.lit (.bl false))] [], .ite (.not (.call 40 [.var 1, .idx (.var 6) (.idx (.var 7) (.lit (.int 1))), .idx (.var 6) (.idx (.var 7) (.lit (.int 2)))])) [.ret (.lit (.bl false))] [], .append (.var 6) (.call 41 [.var 0, .idx (.idx (.var 0) (.lit (.int 3))) (.idx (.var 7) (.lit (.int 0))), .idx (.var 6) (.idx (.var 7) (.lit (.int 1))), .idx (.var 6) (.idx (.var 7) (.lit (.int 2)))])],
  .ite (.cmp .ne (.val (.comp [8] (.var 8) (.nm 8) (.src (.var 5)) [.not (.call 39 [.var 8, .bi .len [.var 6]])])) (.val (.disp []))) [.ret (.lit (.bl false))] [],
  .ret (.cmp .eq (.val (.comp [9] (.idx (.var 6) (.var 9)) (.nm 9) (.src (.var 5)) [])) (.var 3))]
def f22 : Fn := ⟨6, 10, b22, true⟩
abbrev s22 : Stmt := top 66
def n22 : List Str := ["_law_frame", "_law_lot", "_law_data_here", "_law_wanted", "_law_steps", "_law_ends", "_law_rows_here", "_law_step", "_law_one", "_law_end"]
def p22 : List Str := ["_law_frame", "_law_lot", "_law_data_here", "_law_wanted", "_law_steps", "_law_ends"]
/-- _law_is_lot -/
def b23 : List Sm := [
  .ite (.or [.not (.bi (.isa [.tuple]) [.var 4]), .cmp .ne (.val (.comp [5] (.var 5) (.nm 5) (.src (.var 4)) [.not (.bi (.isa [.tuple]) [.var 5])])) (.val (.disp []))]) [.ret (.lit (.bl false))] [],
  .ite (.cmp .ne (.val (.comp [5] (.var 5) (.nm 5) (.src (.var 4)) [.cmp .ne (.bi .len [.var 5]) (.bi .len [.var 2])])) (.val (.disp []))) [.ret (.lit (.bl false))] [],
  .for_ (.nm 5) (.src (.var 4)) [.ite (.cmp .ne (.val (.comp [6] (.var 6) (.nm 6) (.src (.var 5)) [.not (.call 39 [.var 6, .idx (.var 0) (.lit (.int 0))])])) (.val (.disp []))) [.ret (.lit (.bl false))] []],
  .ite (.or [.cmp .ne (.val (.list (.var 4))) (.val (.sorted (.var 4) true)), .cmp .ne (.val (.comp [5] (.var 5) (.nm 5) (.src (.call 25 [.var 0, .var 2])) [.cmp .notin (.var 5) (.var 4)])) (.val (.disp []))]) [.ret (.lit (.bl false))] [],
  .ret (.and [.cmp .eq (.call 24 [.var 0, .var 1, .var 4]) (.var 4), .cmp .ne (.val (.comp [5] (.var 5) (.nm 5) (.src (.var 3)) [.cmp .notin (.var 5) (.var 4)])) (.val (.disp []))])]
def f23 : Fn := ⟨5, 7, b23, true⟩
abbrev s23 : Stmt := top 67
def n23 : List Str := ["_law_frame", "_law_lot", "_law_data_here", "_law_wanted", "_law_value", "_law_row", "_law_one"]
def p23 : List Str := ["_law_frame", "_law_lot", "_law_data_here", "_law_wanted", "_law_value"]
/-- _law_closing -/
def b24 : List Sm := [
  .par [3, 4] [.own (.list (.var 2)), .lit (.int 0)],
  .whl (.cmp .ne (.var 4) (.bi .len [.var 3])) [.asg (.nm 4) (.bi .len [.var 3]), .for_ (.nm 5) (.src (.slice (.var 3) [] [.var 4])) [.for_ (.nm 6) (.src (.slice (.var 3) [] [.var 4])) [.for_ (.nm 7) (.src (.ite (.call 40 [.var 1, .var 5, .var 6]) (.idx (.var 0) (.lit (.int 3))) (.val (.disp [])))) [.asg (.nm 8) (.call 41 [.var 0, .var 7, .var 5, .var 6]), .ite (.cmp .notin (.var 8) (.var 3)) [.append (.var 3) (.var 8)] []]]]],
  .ret (.bi .tuple [.val (.sorted (.var 3) true)])]
def f24 : Fn := ⟨3, 9, b24, true⟩
abbrev s24 : Stmt := top 63
def n24 : List Str := ["_law_frame", "_law_lot", "_law_rows_here", "_law_found", "_law_before", "_law_one", "_law_other", "_law_table", "_law_row"]
def p24 : List Str := ["_law_frame", "_law_lot", "_law_rows_here"]
/-- _law_begins -/
def b25 : List Sm := [
  .ret (.own (.comp [2] (.bi .tuple [.val (.comp [3] (.idx (.var 3) (.var 2)) (.nm 3) (.src (.var 1)) [])]) (.nm 2) (.rng [.idx (.var 0) (.lit (.int 1))]) []))]
def f25 : Fn := ⟨2, 4, b25, false⟩
abbrev s25 : Stmt := top 64
def n25 : List Str := ["_law_frame", "_law_data_here", "_law_spot", "_law_datum"]
def p25 : List Str := ["_law_frame", "_law_data_here"]
/-- is_string -/
def b26 : List Sm := [
  .ret (.bi (.isa [.str]) [.var 0])]
def f26 : Fn := ⟨1, 1, b26, true⟩
abbrev s26 : Stmt := top 10
def n26 : List Str := ["value"]
def p26 : List Str := ["value"]
/-- is_quiet_way -/
def b27 : List Sm := [
  .ite (.or [.not (.call 42 [.idx (.var 0) (.lit (.int 3)), .idx (.var 0) (.lit (.int 1)), .var 4]), .not (.bi (.isa [.tuple]) [.var 5]), .cmp .ne (.bi .len [.var 5]) (.idx (.var 0) (.lit (.int 1)))]) [.ret (.lit (.bl false))] [],
  .asg (.nm 6) (.own (.comp [10] (.bi .tuple [.val (.comp [13] (.idx (.var 13) (.var 10)) (.nm 13) (.src (.var 2)) [])]) (.nm 10) (.rng [.idx (.var 0) (.lit (.int 1))]) [])),
  .for_ (.tup [.nm 7, .nm 8, .nm 9]) (.src (.var 4)) [.ite (.not (.call 43 [.var 1, .idx (.var 6) (.var 8), .idx (.var 6) (.var 9)])) [.ret (.lit (.bl false))] [], .append (.var 6) (.call 44 [.var 0, .var 7, .idx (.var 6) (.var 8), .idx (.var 6) (.var 9)])],
  .ret (.bi .all [.val (.comp [11, 12] (.and [.call 33 [.var 11, .bi .len [.var 6]], .cmp .eq (.idx (.var 6) (.var 11)) (.var 12)]) (.tup [.nm 11, .nm 12]) (.zip [.var 5, .var 3]) [])])]
def f27 : Fn := ⟨6, 14, b27, true⟩
abbrev s27 : Stmt := top 46
def n27 : List Str := ["frame", "lot", "data", "wanted", "steps", "ends", "rows", "table", "one", "other", "spot", "end", "row", "datum"]
def p27 : List Str := ["frame", "lot", "data", "wanted", "steps", "ends"]
/-- is_silent_lot -/
def b28 : List Sm := [
  .ite (.or [.not (.bi (.isa [.tuple]) [.var 3]), .not (.bi .all [.val (.comp [7] (.and [.bi (.isa [.tuple]) [.var 7], .cmp .eq (.bi .len [.var 7]) (.bi .len [.var 2])]) (.nm 7) (.src (.var 3)) [])])]) [.ret (.lit (.bl false))] [],
  .ite (.or [.not (.bi .all [.val (.comp2 [4, 7] (.call 33 [.var 4, .idx (.var 0) (.lit (.int 0))]) (.nm 7) (.src (.var 3)) [] [4] (.nm 4) (.src (.var 7)) [])]), .not (.call 45 [.var 3])]) [.ret (.lit (.bl false))] [],
  .ite (.not (.bi .all [.val (.comp [6] (.cmp .in_ (.bi .tuple [.val (.comp [8] (.idx (.var 8) (.var 6)) (.nm 8) (.src (.var 2)) [])]) (.var 3)) (.nm 6) (.rng [.idx (.var 0) (.lit (.int 1))]) [])])) [.ret (.lit (.bl false))] [],
  .for_ (.nm 4) (.src (.var 3)) [.for_ (.nm 5) (.src (.var 3)) [.ite (.call 43 [.var 1, .var 4, .var 5]) [.ite (.not (.bi .all [.val (.comp [9] (.cmp .in_ (.call 44 [.var 0, .var 9, .var 4, .var 5]) (.var 3)) (.nm 9) (.rng [.bi .len [.idx (.var 0) (.lit (.int 3))]]) [])])) [.ret (.lit (.bl false))] []] []]],
  .ret (.lit (.bl true))]
def f28 : Fn := ⟨4, 10, b28, true⟩
abbrev s28 : Stmt := top 47
def n28 : List Str := ["frame", "lot", "data", "value", "one", "other", "spot", "row", "datum", "table"]
def p28 : List Str := ["frame", "lot", "data", "value"]
/-- _law_astray -/
def b29 : List Sm := [
  .asg (.nm 4) (.own (.disp [])),
  .whl (.and [.cmp .lt (.bi .len [.var 4]) (.bi .min2 [.var 3, .bi .len [.var 1]]), .cmp .in_ (.idx (.idx (.var 1) (.bi .len [.var 4])) (.lit (.int 0))) (.tup [.lit (.str "op"), .lit (.str "load")])]) [.asg (.tup [.nm 5, .nm 2]) (.call 30 [.var 0, .idx (.var 1) (.bi .len [.var 4]), .var 2]), .append (.var 4) (.bin .add (.tup [.bin .add (.lit (.str "wrong ")) (.idx (.var 5) (.lit (.int 0)))]) (.slice (.var 5) [.lit (.int 1)] []))],
  .ret (.bi .tuple [.var 4])]
def f29 : Fn := ⟨4, 6, b29, true⟩
abbrev s29 : Stmt := top 55
def n29 : List Str := ["_law_frame", "_law_rows_here", "_law_datum", "_law_deep", "_law_found", "_law_event"]
def p29 : List Str := ["_law_frame", "_law_rows_here", "_law_datum", "_law_deep"]
/-- _law_done -/
def b30 : List Sm := [
  .asg (.nm 3) (.own (.list (.var 2))),
  .ite (.cmp .eq (.idx (.var 1) (.lit (.int 0))) (.lit (.str "op"))) [.par [4, 5] [.idx (.var 3) (.idx (.var 1) (.lit (.int 3))), .idx (.var 3) (.idx (.var 1) (.lit (.int 4)))], .asg (.sub (.var 3) (.idx (.var 1) (.lit (.int 2)))) (.idx (.idx (.idx (.var 0) (.lit (.int 3))) (.idx (.var 1) (.lit (.int 1)))) (.bin .add (.bin .mul (.lit (.int 2)) (.var 4)) (.var 5))), .ret (.tup [.tup [.lit (.str "op"), .idx (.var 1) (.lit (.int 1)), .var 4, .var 5], .bi .tuple [.var 3]])] [],
  .ite (.cmp .eq (.idx (.var 1) (.lit (.int 0))) (.lit (.str "load"))) [.asg (.nm 6) (.idx (.var 3) (.bin .add (.idx (.var 0) (.lit (.int 1))) (.idx (.var 3) (.idx (.var 1) (.lit (.int 2)))))), .asg (.nm 7) (.tup [.lit (.str "load"), .idx (.var 3) (.idx (.var 1) (.lit (.int 2))), .var 6]), .asg (.sub (.var 3) (.idx (.var 1) (.lit (.int 1)))) (.var 6), .ret (.tup [.var 7, .bi .tuple [.var 3]])] [],
  .ite (.cmp .eq (.idx (.var 1) (.lit (.int 0))) (.lit (.str "store"))) [.asg (.nm 7) (.tup [.lit (.str "store"), .idx (.var 3) (.idx (.var 1) (.lit (.int 1))), .idx (.var 3) (.idx (.var 1) (.lit (.int 2)))]), .asg (.sub (.var 3) (.bin .add (.idx (.var 0) (.lit (.int 1))) (.idx (.var 7) (.lit (.int 1))))) (.idx (.var 7) (.lit (.int 2))), .ret (.tup [.var 7, .bi .tuple [.var 3]])] [],
  .ret (.tup [.tup [.lit (.str "fence")], .var 2])]
def f30 : Fn := ⟨3, 8, b30, true⟩
abbrev s30 : Stmt := top 54
def n30 : List Str := ["_law_frame", "_law_row", "_law_datum", "_law_values", "_law_one", "_law_other", "_law_value", "_law_event"]
def p30 : List Str := ["_law_frame", "_law_row", "_law_datum"]
/-- need_frame -/
def b31 : List Sm := [
  .ite (.or [.not (.bi (.isa [.tuple]) [.var 0]), .cmp .ne (.bi .len [.var 0]) (.lit (.int 5))]) [.raise 0 (.lit .non)] [],
  .asg (.tup [.nm 1, .nm 2, .nm 3, .nm 4, .nm 5]) (.var 0),
  .ite (.or [.not (.call 46 [.var 1]), .not (.chain .le .le (.lit (.int 2)) (.var 1) (.lit (.int 3)))]) [.raise 0 (.lit .non)] [],
  .ite (.or [.not (.call 46 [.var 2]), .not (.chain .le .le (.lit (.int 1)) (.var 2) (.lit (.int 4)))]) [.raise 0 (.lit .non)] [],
  .ite (.or [.not (.call 46 [.var 3]), .and [.cmp .ne (.var 3) (.lit (.int 0)), .cmp .ne (.var 3) (.var 1)]]) [.raise 0 (.lit .non)] [],
  .ite (.or [.not (.bi (.isa [.tuple]) [.var 4]), .cmp .gt (.bi .len [.var 4]) (.con 2), .not (.bi .all [.val (.comp [6] (.call 47 [.var 1, .var 6]) (.nm 6) (.src (.var 4)) [])])]) [.raise 0 (.lit .non)] [],
  .ite (.not (.call 33 [.var 5, .bin .add (.con 3) (.lit (.int 1))])) [.raise 0 (.lit .non)] [],
  .ret (.var 0)]
def f31 : Fn := ⟨1, 7, b31, true⟩
abbrev s31 : Stmt := top 19
def n31 : List Str := ["value", "size", "registers", "cells", "tables", "deep", "one"]
def p31 : List Str := ["value"]
/-- is_sequence -/
def b32 : List Sm := [
  .ret (.bi (.isa [.list, .tuple]) [.var 0])]
def f32 : Fn := ⟨1, 1, b32, true⟩
abbrev s32 : Stmt := top 11
def n32 : List Str := ["value"]
def p32 : List Str := ["value"]
/-- is_below -/
def b33 : List Sm := [
  .ret (.and [.call 48 [.var 0], .cmp .lt (.var 0) (.var 1)])]
def f33 : Fn := ⟨2, 2, b33, true⟩
abbrev s33 : Stmt := top 9
def n33 : List Str := ["value", "many"]
def p33 : List Str := ["value", "many"]
/-- need_data -/
def b34 : List Sm := [
  .ite (.not (.call 32 [.var 1])) [.raise 0 (.lit .non)] [],
  .for_ (.tup [.nm 2, .nm 3]) (.enum (.var 1)) [.ite (.or [.not (.call 49 [.var 0, .var 3]), .cmp .in_ (.var 3) (.slice (.var 1) [] [.var 2])]) [.raise 0 (.lit .non)] []],
  .ret (.bi .tuple [.var 1])]
def f34 : Fn := ⟨2, 4, b34, true⟩
abbrev s34 : Stmt := top 35
def n34 : List Str := ["frame", "value", "at", "one"]
def p34 : List Str := ["frame", "value"]
/-- plain_rows -/
def b35 : List Sm := [
  .asg (.nm 1) (.own (.disp [])),
  .for_ (.nm 2) (.src (.var 0)) [.ite (.cmp .eq (.idx (.var 2) (.lit (.int 0))) (.lit (.str "loop"))) [.extend (.var 1) (.bin .mul (.call 35 [.idx (.var 2) (.lit (.int 2))]) (.idx (.var 2) (.lit (.int 1))))] [.ite (.cmp .eq (.idx (.var 2) (.lit (.int 0))) (.lit (.str "fork"))) [.append (.var 1) (.tup [.idx (.var 2) (.lit (.int 0)), .idx (.var 2) (.lit (.int 1)), .bi .tuple [.call 35 [.idx (.var 2) (.lit (.int 2))]], .bi .tuple [.call 35 [.idx (.var 2) (.lit (.int 3))]]])] [.append (.var 1) (.var 2)]]],
  .ret (.var 1)]
def f35 : Fn := ⟨1, 3, b35, true⟩
abbrev s35 : Stmt := top 24
def n35 : List Str := ["rows", "found", "row"]
def p35 : List Str := ["rows"]
/-- need_program -/
def b36 : List Sm := [
  .asg (.nm 0) (.call 31 [.var 0]),
  .ite (.not (.bi (.isa [.tuple]) [.var 1])) [.raise 0 (.lit .non)] [],
  .for_ (.tup [.nm 2, .nm 3]) (.enum (.var 1)) [.ite (.not (.call 50 [.var 0, .var 3])) [.raise 0 (.lit .non)] []],
  .ret (.var 1)]
def f36 : Fn := ⟨2, 4, b36, true⟩
abbrev s36 : Stmt := top 23
def n36 : List Str := ["frame", "value", "at", "row"]
def p36 : List Str := ["frame", "value"]
/-- walked -/
def b37 : List Sm := [
  .par [3, 4] [.own (.disp []), .own (.comp [5] (.var 5) (.nm 5) (.src (.val (.revl (.var 1)))) [])],
  .whl (.cmp .gt (.bi .len [.var 4]) (.lit (.int 0))) [.asg (.nm 5) (.pop (.var 4) []), .ite (.cmp .eq (.idx (.var 5) (.lit (.int 0))) (.lit (.str "fork"))) [.asg (.nm 6) (.bi .int [.cmp .ne (.idx (.var 2) (.idx (.var 5) (.lit (.int 1)))) (.lit (.int 0))]), .append (.var 3) (.tup [.tup [.lit (.str "fork"), .var 6], .call 51 [.var 0, .idx (.var 5) (.bin .sub (.lit (.int 3)) (.var 6)), .var 2]]), .extend (.var 4) (.val (.comp [8] (.var 8) (.nm 8) (.src (.rev (.idx (.var 5) (.bin .add (.lit (.int 2)) (.var 6))))) []))] [.asg (.nm 7) (.call 52 [.var 5, .var 2, .idx (.var 0) (.lit (.int 1))]), .asg (.nm 2) (.call 53 [.var 0, .var 7, .var 5, .var 2]), .append (.var 3) (.tup [.var 7, .tup []])]],
  .ret (.tup [.bi .tuple [.var 3], .var 2])]
def f37 : Fn := ⟨3, 9, b37, true⟩
abbrev s37 : Stmt := top 33
def n37 : List Str := ["frame", "rows", "datum", "steps", "waiting", "row", "side", "event", "inner"]
def p37 : List Str := ["frame", "rows", "datum"]
/-- Silent.put_answers -/
def b38 : List Sm := [
  .ite (.call 43 [.attr (.var 0) "lot", .var 1, .var 2]) [.for_ (.nm 3) (.rng [.bi .len [.idx (.attr (.var 0) "frame") (.lit (.int 3))]]) [.asg (.nm 4) (.call 44 [.attr (.var 0) "frame", .var 3, .var 1, .var 2]), .ite (.din true (.var 4) (.attr (.var 0) "ways")) [.asg (.dsub (.attr (.var 0) "ways") (.var 4)) (.tup [.var 3, .var 1, .var 2]), .append (.attr (.var 0) "rows") (.var 4)] []]] []]
def f38 : Fn := ⟨3, 5, b38, true⟩
abbrev s38 : Stmt := inClass (top 42) 3
def n38 : List Str := ["self", "one", "other", "table", "row"]
def p38 : List Str := ["self", "one", "other"]
/-- _law_number -/
def b39 : List Sm := [
  .ret (.and [.bi (.isa [.int]) [.var 0], .not (.bi (.isa [.bool]) [.var 0]), .chain .le .lt (.lit (.int 0)) (.var 0) (.var 1)])]
def f39 : Fn := ⟨2, 2, b39, true⟩
abbrev s39 : Stmt := top 65
def n39 : List Str := ["_law_value", "_law_many"]
def p39 : List Str := ["_law_value", "_law_many"]
/-- _law_asked -/
def b40 : List Sm := [
  .ret (.and [.or [.cmp .notin (.lit (.int 0)) (.var 0), .cmp .eq (.bi .lenset [.var 1]) (.lit (.int 1))], .or [.cmp .notin (.lit (.int 1)) (.var 0), .cmp .eq (.bi .lenset [.var 2]) (.lit (.int 1))]])]
def f40 : Fn := ⟨3, 3, b40, true⟩
abbrev s40 : Stmt := top 61
def n40 : List Str := ["_law_lot", "_law_one", "_law_other"]
def p40 : List Str := ["_law_lot", "_law_one", "_law_other"]
/-- _law_answers -/
def b41 : List Sm := [
  .ret (.bi .tuple [.val (.comp [4, 5] (.idx (.var 1) (.bin .add (.bin .mul (.idx (.var 0) (.lit (.int 0))) (.var 4)) (.var 5))) (.tup [.nm 4, .nm 5]) (.zip [.var 2, .var 3]) [])])]
def f41 : Fn := ⟨4, 6, b41, true⟩
abbrev s41 : Stmt := top 62
def n41 : List Str := ["_law_frame", "_law_table", "_law_one", "_law_other", "_law_near", "_law_far"]
def p41 : List Str := ["_law_frame", "_law_table", "_law_one", "_law_other"]
/-- are_steps -/
def b42 : List Sm := [
  .ite (.not (.bi (.isa [.tuple]) [.var 2])) [.ret (.lit (.bl false))] [],
  .for_ (.tup [.nm 3, .nm 4]) (.enum (.var 2)) [.ite (.or [.not (.bi (.isa [.tuple]) [.var 4]), .cmp .ne (.bi .len [.var 4]) (.lit (.int 3)), .not (.call 33 [.idx (.var 4) (.lit (.int 0)), .bi .len [.var 0]])]) [.ret (.lit (.bl false))] [], .ite (.not (.bi .all [.val (.comp [5] (.call 33 [.var 5, .bin .add (.var 1) (.var 3)]) (.nm 5) (.src (.slice (.var 4) [.lit (.int 1)] [])) [])])) [.ret (.lit (.bl false))] []],
  .ret (.lit (.bl true))]
def f42 : Fn := ⟨3, 6, b42, true⟩
abbrev s42 : Stmt := top 26
def n42 : List Str := ["tables", "many", "value", "at", "step", "one"]
def p42 : List Str := ["tables", "many", "value"]
/-- is_let -/
def b43 : List Sm := [
  .ret (.bi .all [.val (.comp [3, 4] (.or [.cmp .notin (.var 3) (.var 0), .cmp .eq (.bi .lenset [.var 4]) (.lit (.int 1))]) (.tup [.nm 3, .nm 4]) (.enum (.tup [.var 1, .var 2])) [])])]
def f43 : Fn := ⟨3, 5, b43, true⟩
abbrev s43 : Stmt := top 40
def n43 : List Str := ["lot", "one", "other", "atom", "row"]
def p43 : List Str := ["lot", "one", "other"]
/-- answer_row -/
def b44 : List Sm := [
  .ret (.bi .tuple [.val (.comp [4, 5] (.idx (.idx (.idx (.var 0) (.lit (.int 3))) (.var 1)) (.bin .add (.bin .mul (.var 4) (.idx (.var 0) (.lit (.int 0)))) (.var 5))) (.tup [.nm 4, .nm 5]) (.zip [.var 2, .var 3]) [])])]
def f44 : Fn := ⟨4, 6, b44, true⟩
abbrev s44 : Stmt := top 41
def n44 : List Str := ["frame", "table", "one", "other", "first", "second"]
def p44 : List Str := ["frame", "table", "one", "other"]
/-- are_ascending -/
def b45 : List Sm := [
  .ret (.bi .all [.val (.comp [1] (.cmp .lt (.idx (.var 0) (.var 1)) (.idx (.var 0) (.bin .add (.var 1) (.lit (.int 1))))) (.nm 1) (.rng [.bin .sub (.bi .len [.var 0]) (.lit (.int 1))]) [])])]
def f45 : Fn := ⟨1, 2, b45, true⟩
abbrev s45 : Stmt := top 12
def n45 : List Str := ["values", "at"]
def p45 : List Str := ["values"]
/-- is_integer -/
def b46 : List Sm := [
  .ret (.and [.bi (.isa [.int]) [.var 0], .not (.bi (.isa [.bool]) [.var 0])])]
def f46 : Fn := ⟨1, 1, b46, true⟩
abbrev s46 : Stmt := top 7
def n46 : List Str := ["value"]
def p46 : List Str := ["value"]
/-- is_table -/
def b47 : List Sm := [
  .ret (.and [.bi (.isa [.tuple]) [.var 1], .cmp .eq (.bi .len [.var 1]) (.bin .mul (.var 0) (.var 0)), .bi .all [.val (.comp [2] (.call 33 [.var 2, .var 0]) (.nm 2) (.src (.var 1)) [])]])]
def f47 : Fn := ⟨2, 3, b47, true⟩
abbrev s47 : Stmt := top 18
def n47 : List Str := ["size", "value", "one"]
def p47 : List Str := ["size", "value"]
/-- is_number -/
def b48 : List Sm := [
  .ret (.and [.call 46 [.var 0], .cmp .ge (.var 0) (.lit (.int 0))])]
def f48 : Fn := ⟨1, 1, b48, true⟩
abbrev s48 : Stmt := top 8
def n48 : List Str := ["value"]
def p48 : List Str := ["value"]
/-- is_datum -/
def b49 : List Sm := [
  .ite (.or [.not (.bi (.isa [.tuple]) [.var 1]), .cmp .ne (.bi .len [.var 1]) (.bin .add (.idx (.var 0) (.lit (.int 1))) (.idx (.var 0) (.lit (.int 2))))]) [.ret (.lit (.bl false))] [],
  .ret (.bi .all [.val (.comp [2] (.call 33 [.var 2, .idx (.var 0) (.lit (.int 0))]) (.nm 2) (.src (.var 1)) [])])]
def f49 : Fn := ⟨2, 3, b49, true⟩
abbrev s49 : Stmt := top 20
def n49 : List Str := ["frame", "value", "one"]
def p49 : List Str := ["frame", "value"]
/-- is_row -/
def b50 : List Sm := [
  .ite (.or [.not (.bi (.isa [.tuple]) [.var 1]), .cmp .eq (.bi .len [.var 1]) (.lit (.int 0)), .not (.call 26 [.idx (.var 1) (.lit (.int 0))]), .cmp .ne (.bi .len [.var 1]) (.kget 4 (.idx (.var 1) (.lit (.int 0))) (.lit (.int 0)))]) [.ret (.lit (.bl false))] [],
  .ite (.cmp .eq (.idx (.var 1) (.lit (.int 0))) (.lit (.str "loop"))) [.ret (.and [.call 33 [.idx (.var 1) (.lit (.int 1)), .bin .add (.con 5) (.lit (.int 1))], .call 54 [.var 0, .idx (.var 1) (.lit (.int 2))]])] [],
  .ite (.cmp .eq (.idx (.var 1) (.lit (.int 0))) (.lit (.str "fork"))) [.ret (.and [.call 33 [.idx (.var 1) (.lit (.int 1)), .idx (.var 0) (.lit (.int 1))], .call 54 [.var 0, .idx (.var 1) (.lit (.int 2))], .call 54 [.var 0, .idx (.var 1) (.lit (.int 3))]])] [],
  .ite (.cmp .eq (.idx (.var 1) (.lit (.int 0))) (.lit (.str "op"))) [.ret (.and [.call 33 [.idx (.var 1) (.lit (.int 1)), .bi .len [.idx (.var 0) (.lit (.int 3))]], .bi .all [.val (.comp [2] (.call 33 [.var 2, .idx (.var 0) (.lit (.int 1))]) (.nm 2) (.src (.slice (.var 1) [.lit (.int 2)] [])) [])]])] [],
  .ret (.and [.bi .all [.val (.comp [2] (.call 33 [.var 2, .idx (.var 0) (.lit (.int 1))]) (.nm 2) (.src (.slice (.var 1) [.lit (.int 1)] [])) [])], .or [.cmp .eq (.idx (.var 1) (.lit (.int 0))) (.lit (.str "fence")), .cmp .gt (.idx (.var 0) (.lit (.int 2))) (.lit (.int 0))]])]
def f50 : Fn := ⟨2, 3, b50, true⟩
abbrev s50 : Stmt := top 22
def n50 : List Str := ["frame", "row", "one"]
def p50 : List Str := ["frame", "row"]
/-- wrong_way -/
def b51 : List Sm := [
  .asg (.nm 3) (.own (.disp [])),
  .for_ (.nm 4) (.src (.slice (.var 1) [] [.idx (.var 0) (.lit (.int 4))])) [.ite (.cmp .notin (.idx (.var 4) (.lit (.int 0))) (.tup [.lit (.str "op"), .lit (.str "load")])) [.ret (.bi .tuple [.var 3])] [], .asg (.nm 5) (.call 52 [.var 4, .var 2, .idx (.var 0) (.lit (.int 1))]), .asg (.nm 2) (.call 53 [.var 0, .var 5, .var 4, .var 2]), .append (.var 3) (.bin .add (.tup [.bin .add (.lit (.str "wrong ")) (.idx (.var 5) (.lit (.int 0)))]) (.slice (.var 5) [.lit (.int 1)] []))],
  .ret (.bi .tuple [.var 3])]
def f51 : Fn := ⟨3, 6, b51, true⟩
abbrev s51 : Stmt := top 32
def n51 : List Str := ["frame", "rows", "datum", "found", "row", "event"]
def p51 : List Str := ["frame", "rows", "datum"]
/-- told_event -/
def b52 : List Sm := [
  .ite (.cmp .eq (.idx (.var 0) (.lit (.int 0))) (.lit (.str "op"))) [.ret (.tup [.lit (.str "op"), .idx (.var 0) (.lit (.int 1)), .idx (.var 1) (.idx (.var 0) (.lit (.int 3))), .idx (.var 1) (.idx (.var 0) (.lit (.int 4)))])] [],
  .ite (.cmp .eq (.idx (.var 0) (.lit (.int 0))) (.lit (.str "load"))) [.ret (.tup [.lit (.str "load"), .idx (.var 1) (.idx (.var 0) (.lit (.int 2))), .idx (.var 1) (.bin .add (.var 2) (.idx (.var 1) (.idx (.var 0) (.lit (.int 2)))))])] [],
  .ite (.cmp .eq (.idx (.var 0) (.lit (.int 0))) (.lit (.str "store"))) [.ret (.tup [.lit (.str "store"), .idx (.var 1) (.idx (.var 0) (.lit (.int 1))), .idx (.var 1) (.idx (.var 0) (.lit (.int 2)))])] [],
  .ret (.var 0)]
def f52 : Fn := ⟨3, 3, b52, true⟩
abbrev s52 : Stmt := top 29
def n52 : List Str := ["row", "datum", "registers"]
def p52 : List Str := ["row", "datum", "registers"]
/-- datum_after -/
def b53 : List Sm := [
  .ite (.cmp .eq (.idx (.var 2) (.lit (.int 0))) (.lit (.str "op"))) [.ret (.call 55 [.var 3, .idx (.var 2) (.lit (.int 2)), .idx (.idx (.idx (.var 0) (.lit (.int 3))) (.idx (.var 1) (.lit (.int 1)))) (.bin .add (.bin .mul (.idx (.var 1) (.lit (.int 2))) (.idx (.var 0) (.lit (.int 0)))) (.idx (.var 1) (.lit (.int 3))))])] [],
  .ite (.cmp .eq (.idx (.var 2) (.lit (.int 0))) (.lit (.str "load"))) [.ret (.call 55 [.var 3, .idx (.var 2) (.lit (.int 1)), .idx (.var 1) (.lit (.int 2))])] [],
  .ret (.ite (.cmp .eq (.idx (.var 2) (.lit (.int 0))) (.lit (.str "store"))) (.call 55 [.var 3, .bin .add (.idx (.var 0) (.lit (.int 1))) (.idx (.var 1) (.lit (.int 1))), .idx (.var 1) (.lit (.int 2))]) (.var 3))]
def f53 : Fn := ⟨4, 4, b53, true⟩
abbrev s53 : Stmt := top 31
def n53 : List Str := ["frame", "event", "row", "datum"]
def p53 : List Str := ["frame", "event", "row", "datum"]
/-- are_rows -/
def b54 : List Sm := [
  .ret (.and [.bi (.isa [.tuple]) [.var 1], .bi .all [.val (.comp [2] (.call 50 [.var 0, .var 2]) (.nm 2) (.src (.var 1)) [])]])]
def f54 : Fn := ⟨2, 3, b54, true⟩
abbrev s54 : Stmt := top 21
def n54 : List Str := ["frame", "value", "row"]
def p54 : List Str := ["frame", "value"]
/-- put_value -/
def b55 : List Sm := [
  .ret (.bin .add (.bin .add (.slice (.var 0) [] [.var 1]) (.tup [.var 2])) (.slice (.var 0) [.bin .add (.var 1) (.lit (.int 1))] []))]
def f55 : Fn := ⟨3, 3, b55, true⟩
abbrev s55 : Stmt := top 30
def n55 : List Str := ["datum", "spot", "value"]
def p55 : List Str := ["datum", "spot", "value"]
def T : List Fn := [f0, f1, f2, f3, f4, f5, f6, f7, f8, f9, f10, f11, f12, f13, f14, f15, f16, f17, f18, f19, f20, f21, f22, f23, f24, f25, f26, f27, f28, f29, f30, f31, f32, f33, f34, f35, f36, f37, f38, f39, f40, f41, f42, f43, f44, f45, f46, f47, f48, f49, f50, f51, f52, f53, f54, f55]
def tb : Tb where
  fns := [(("law" : Str), 0, 1), (("_law_well" : Str), 1, 2), (("_law_task" : Str), 2, 1), (("straight_paper" : Str), 3, 4), (("_law_holds" : Str), 4, 5), (("_law_spoilt" : Str), 5, 2), (("_law_others" : Str), 6, 5), (("straight_holds" : Str), 7, 5), (("_law_drawn" : Str), 8, 2), (("_law_one_of" : Str), 9, 2), (("_law_data" : Str), 10, 1), (("_law_rows" : Str), 11, 4), (("_law_run" : Str), 12, 5), (("_law_flat" : Str), 13, 1), (("need_bare" : Str), 14, 1), (("need_lot" : Str), 15, 1), (("need_few_data" : Str), 16, 2), (("wanted_rows" : Str), 17, 3), (("steps_to" : Str), 21, 4), (("_law_is_way" : Str), 22, 6), (("_law_is_lot" : Str), 23, 5), (("_law_closing" : Str), 24, 3), (("_law_begins" : Str), 25, 2), (("is_string" : Str), 26, 1), (("is_quiet_way" : Str), 27, 6), (("is_silent_lot" : Str), 28, 4), (("_law_astray" : Str), 29, 4), (("_law_done" : Str), 30, 3), (("need_frame" : Str), 31, 1), (("is_sequence" : Str), 32, 1), (("is_below" : Str), 33, 2), (("need_data" : Str), 34, 2), (("plain_rows" : Str), 35, 1), (("need_program" : Str), 36, 2), (("walked" : Str), 37, 3), (("_law_number" : Str), 39, 2), (("_law_asked" : Str), 40, 3), (("_law_answers" : Str), 41, 4), (("are_steps" : Str), 42, 3), (("is_let" : Str), 43, 3), (("answer_row" : Str), 44, 4), (("are_ascending" : Str), 45, 1), (("is_integer" : Str), 46, 1), (("is_table" : Str), 47, 2), (("is_number" : Str), 48, 1), (("is_datum" : Str), 49, 2), (("is_row" : Str), 50, 2), (("wrong_way" : Str), 51, 3), (("told_event" : Str), 52, 3), (("datum_after" : Str), 53, 4), (("are_rows" : Str), 54, 2), (("put_value" : Str), 55, 3)]
  cls := [(("Silent" : Str), 0, 18, 4)]
  mth := [(0, ("grow" : Str), 19, 2), (0, ("has_all" : Str), 20, 2), (0, ("put_answers" : Str), 38, 3)]
  con := [(("MANY_ATOMS" : Str), 0), (("MOST_DATA" : Str), 1), (("MOST_TABLES" : Str), 2), (("MOST_DEEP" : Str), 3), (("MOST_TIMES" : Str), 5)]
  blt := ["abs", "all", "bool", "enumerate", "int", "isinstance", "len", "list", "min", "range", "repr", "set", "sorted", "str", "tuple", "zip"]
  fld := ["frame", "lot", "rows", "ways"]
  kws := [(("straight_holds" : Str), 7, p7)]
  kds := [(("ROW_SIZES" : Str), 4)]
def cs : Nat → Option D
  | 0 => some ((.int 10))
  | 1 => some ((.int 4))
  | 2 => some ((.int 4))
  | 3 => some ((.int 3))
  | 4 => some (.tup [.tup [(.str "op"), (.int 5)], .tup [(.str "load"), (.int 3)], .tup [(.str "store"), (.int 3)], .tup [(.str "fence"), (.int 1)], .tup [(.str "fork"), (.int 4)], .tup [(.str "loop"), (.int 3)]])
  | 5 => some ((.int 4))
  | _ => none
end K66

namespace K66
open PySem PySem.Spec PyProof.Rows L2 Rx
theorem ck0 : infB tb (infOf s0 n0 p0) f0 = true := by decide +kernel
theorem ck1 : infB tb (infOf s1 n1 p1) f1 = true := by decide +kernel
theorem ck2 : infB tb (infOf s2 n2 p2) f2 = true := by decide +kernel
theorem ck3 : infB tb (infOf s3 n3 p3) f3 = true := by decide +kernel
theorem ck4 : infB tb (infOf s4 n4 p4) f4 = true := by decide +kernel
theorem ck5 : infB tb (infOf s5 n5 p5) f5 = true := by decide +kernel
theorem ck6 : infB tb (infOf s6 n6 p6) f6 = true := by decide +kernel
theorem ck7 : infB tb (infOf s7 n7 p7) f7 = true := by decide +kernel
theorem ck8 : infB tb (infOf s8 n8 p8) f8 = true := by decide +kernel
theorem ck9 : infB tb (infOf s9 n9 p9) f9 = true := by decide +kernel
theorem ck10 : infB tb (infOf s10 n10 p10) f10 = true := by decide +kernel
theorem ck11 : infB tb (infOf s11 n11 p11) f11 = true := by decide +kernel
theorem ck12 : infB tb (infOf s12 n12 p12) f12 = true := by decide +kernel
theorem ck13 : infB tb (infOf s13 n13 p13) f13 = true := by decide +kernel
theorem ck14 : infB tb (infOf s14 n14 p14) f14 = true := by decide +kernel
theorem ck15 : infB tb (infOf s15 n15 p15) f15 = true := by decide +kernel
theorem ck16 : infB tb (infOf s16 n16 p16) f16 = true := by decide +kernel
theorem ck17 : infB tb (infOf s17 n17 p17) f17 = true := by decide +kernel
theorem ck18 : infB tb (infOf s18 n18 p18) f18 = true := by decide +kernel
theorem ck19 : infB tb (infOf s19 n19 p19) f19 = true := by decide +kernel
theorem ck20 : infB tb (infOf s20 n20 p20) f20 = true := by decide +kernel
theorem ck21 : infB tb (infOf s21 n21 p21) f21 = true := by decide +kernel
theorem ck22 : infB tb (infOf s22 n22 p22) f22 = true := by decide +kernel
theorem ck23 : infB tb (infOf s23 n23 p23) f23 = true := by decide +kernel
theorem ck24 : infB tb (infOf s24 n24 p24) f24 = true := by decide +kernel
theorem ck25 : infB tb (infOf s25 n25 p25) f25 = true := by decide +kernel
theorem ck26 : infB tb (infOf s26 n26 p26) f26 = true := by decide +kernel
theorem ck27 : infB tb (infOf s27 n27 p27) f27 = true := by decide +kernel
theorem ck28 : infB tb (infOf s28 n28 p28) f28 = true := by decide +kernel
theorem ck29 : infB tb (infOf s29 n29 p29) f29 = true := by decide +kernel
theorem ck30 : infB tb (infOf s30 n30 p30) f30 = true := by decide +kernel
theorem ck31 : infB tb (infOf s31 n31 p31) f31 = true := by decide +kernel
theorem ck32 : infB tb (infOf s32 n32 p32) f32 = true := by decide +kernel
theorem ck33 : infB tb (infOf s33 n33 p33) f33 = true := by decide +kernel
theorem ck34 : infB tb (infOf s34 n34 p34) f34 = true := by decide +kernel
theorem ck35 : infB tb (infOf s35 n35 p35) f35 = true := by decide +kernel
theorem ck36 : infB tb (infOf s36 n36 p36) f36 = true := by decide +kernel
theorem ck37 : infB tb (infOf s37 n37 p37) f37 = true := by decide +kernel
theorem ck38 : infB tb (infOf s38 n38 p38) f38 = true := by decide +kernel
theorem ck39 : infB tb (infOf s39 n39 p39) f39 = true := by decide +kernel
theorem ck40 : infB tb (infOf s40 n40 p40) f40 = true := by decide +kernel
theorem ck41 : infB tb (infOf s41 n41 p41) f41 = true := by decide +kernel
theorem ck42 : infB tb (infOf s42 n42 p42) f42 = true := by decide +kernel
theorem ck43 : infB tb (infOf s43 n43 p43) f43 = true := by decide +kernel
theorem ck44 : infB tb (infOf s44 n44 p44) f44 = true := by decide +kernel
theorem ck45 : infB tb (infOf s45 n45 p45) f45 = true := by decide +kernel
theorem ck46 : infB tb (infOf s46 n46 p46) f46 = true := by decide +kernel
theorem ck47 : infB tb (infOf s47 n47 p47) f47 = true := by decide +kernel
theorem ck48 : infB tb (infOf s48 n48 p48) f48 = true := by decide +kernel
theorem ck49 : infB tb (infOf s49 n49 p49) f49 = true := by decide +kernel
theorem ck50 : infB tb (infOf s50 n50 p50) f50 = true := by decide +kernel
theorem ck51 : infB tb (infOf s51 n51 p51) f51 = true := by decide +kernel
theorem ck52 : infB tb (infOf s52 n52 p52) f52 = true := by decide +kernel
theorem ck53 : infB tb (infOf s53 n53 p53) f53 = true := by decide +kernel
theorem ck54 : infB tb (infOf s54 n54 p54) f54 = true := by decide +kernel
theorem ck55 : infB tb (infOf s55 n55 p55) f55 = true := by decide +kernel
def cfgOf (K : PySem.W.Frag) (P : Program) (w : World) (cls : List Addr) (infs : List Inf) : Cfg := ⟨⟨K, fun i => ((infs[i]?).map fun I => V.ref I.f).getD .non, P, w⟩, clOf cls, fun _ _ _ => .bad, cs⟩
theorem all_mk {l : PySem.W.OpenLaw} {w : World} {K : PySem.W.Frag} {h : Heap} {mg : Str → Option Value} {fa : Addr} (X : K.In h) (G0 : h.Ns mainGlobals mg) (hfa : mg "law" = some (.ref fa)) (math : LawTrue cs T 60 0)
    {a0 a1 a2 a3 a4 a5 a6 a7 a8 a9 a10 a11 a12 a13 a14 a15 a16 a17 a18 a19 a20 a21 a22 a23 a24 a25 a26 a27 a28 a29 a30 a31 a32 a33 a34 a35 a36 a37 a38 a39 a40 a41 a42 a43 a44 a45 a46 a47 a48 a49 a50 a51 a52 a53 a54 a55 C0 : Addr}
    (cC0 : PySem.W.nsIn K mainGlobals "Silent" = some (some (.ref C0)))
    (cg0 : PySem.W.plainGet K C0 Str.empty = true)
    (ch0 : PySem.W.hasDictIn K C0 = true)
    (co0 : PySem.W.plainOver K C0 = true)
    (cs0 : PySem.W.findIn K (.ref C0) "__setattr__" = some (some (.builtin "object.__setattr__")))
    (cm0 : PySem.W.makesIn K C0 = true)
    (ck_0 : PySem.W.keepIn K (.ref C0) = true)
    (no0_0 : PySem.W.findIn K (.ref C0) "frame" = some none)
    (no0_1 : PySem.W.findIn K (.ref C0) "lot" = some none)
    (no0_2 : PySem.W.findIn K (.ref C0) "rows" = some none)
    (no0_3 : PySem.W.findIn K (.ref C0) "ways" = some none)
    (g0 : PySem.W.nsIn K mainGlobals "law" = some (some (.ref a0)))
    (d0 : ∃ fd, Fun K "law" "law" s0 a0 fd)
    (g1 : PySem.W.nsIn K mainGlobals "_law_well" = some (some (.ref a1)))
    (d1 : ∃ fd, Fun K "_law_well" "_law_well" s1 a1 fd)
    (g2 : PySem.W.nsIn K mainGlobals "_law_task" = some (some (.ref a2)))
    (d2 : ∃ fd, Fun K "_law_task" "_law_task" s2 a2 fd)
    (g3 : PySem.W.nsIn K mainGlobals "straight_paper" = some (some (.ref a3)))
    (d3 : ∃ fd, Fun K "straight_paper" "straight_paper" s3 a3 fd)
    (g4 : PySem.W.nsIn K mainGlobals "_law_holds" = some (some (.ref a4)))
    (d4 : ∃ fd, Fun K "_law_holds" "_law_holds" s4 a4 fd)
    (g5 : PySem.W.nsIn K mainGlobals "_law_spoilt" = some (some (.ref a5)))
    (d5 : ∃ fd, Fun K "_law_spoilt" "_law_spoilt" s5 a5 fd)
    (g6 : PySem.W.nsIn K mainGlobals "_law_others" = some (some (.ref a6)))
    (d6 : ∃ fd, Fun K "_law_others" "_law_others" s6 a6 fd)
    (g7 : PySem.W.nsIn K mainGlobals "straight_holds" = some (some (.ref a7)))
    (d7 : ∃ fd, Fun K "straight_holds" "straight_holds" s7 a7 fd)
    (g8 : PySem.W.nsIn K mainGlobals "_law_drawn" = some (some (.ref a8)))
    (d8 : ∃ fd, Fun K "_law_drawn" "_law_drawn" s8 a8 fd)
    (g9 : PySem.W.nsIn K mainGlobals "_law_one_of" = some (some (.ref a9)))
    (d9 : ∃ fd, Fun K "_law_one_of" "_law_one_of" s9 a9 fd)
    (g10 : PySem.W.nsIn K mainGlobals "_law_data" = some (some (.ref a10)))
    (d10 : ∃ fd, Fun K "_law_data" "_law_data" s10 a10 fd)
    (g11 : PySem.W.nsIn K mainGlobals "_law_rows" = some (some (.ref a11)))
    (d11 : ∃ fd, Fun K "_law_rows" "_law_rows" s11 a11 fd)
    (g12 : PySem.W.nsIn K mainGlobals "_law_run" = some (some (.ref a12)))
    (d12 : ∃ fd, Fun K "_law_run" "_law_run" s12 a12 fd)
    (g13 : PySem.W.nsIn K mainGlobals "_law_flat" = some (some (.ref a13)))
    (d13 : ∃ fd, Fun K "_law_flat" "_law_flat" s13 a13 fd)
    (g14 : PySem.W.nsIn K mainGlobals "need_bare" = some (some (.ref a14)))
    (d14 : ∃ fd, Fun K "need_bare" "need_bare" s14 a14 fd)
    (g15 : PySem.W.nsIn K mainGlobals "need_lot" = some (some (.ref a15)))
    (d15 : ∃ fd, Fun K "need_lot" "need_lot" s15 a15 fd)
    (g16 : PySem.W.nsIn K mainGlobals "need_few_data" = some (some (.ref a16)))
    (d16 : ∃ fd, Fun K "need_few_data" "need_few_data" s16 a16 fd)
    (g17 : PySem.W.nsIn K mainGlobals "wanted_rows" = some (some (.ref a17)))
    (d17 : ∃ fd, Fun K "wanted_rows" "wanted_rows" s17 a17 fd)
    (g18 : PySem.W.findIn K (.ref C0) "__init__" = some (some (.ref a18)))
    (i18 : PySem.W.isFn K (.ref a18) = true)
    (d18 : ∃ fd, Fun K "__init__" "Silent.__init__" s18 a18 fd)
    (g19 : PySem.W.findIn K (.ref C0) "grow" = some (some (.ref a19)))
    (i19 : PySem.W.isFn K (.ref a19) = true)
    (d19 : ∃ fd, Fun K "grow" "Silent.grow" s19 a19 fd)
    (g20 : PySem.W.findIn K (.ref C0) "has_all" = some (some (.ref a20)))
    (i20 : PySem.W.isFn K (.ref a20) = true)
    (d20 : ∃ fd, Fun K "has_all" "Silent.has_all" s20 a20 fd)
    (g21 : PySem.W.nsIn K mainGlobals "steps_to" = some (some (.ref a21)))
    (d21 : ∃ fd, Fun K "steps_to" "steps_to" s21 a21 fd)
    (g22 : PySem.W.nsIn K mainGlobals "_law_is_way" = some (some (.ref a22)))
    (d22 : ∃ fd, Fun K "_law_is_way" "_law_is_way" s22 a22 fd)
    (g23 : PySem.W.nsIn K mainGlobals "_law_is_lot" = some (some (.ref a23)))
    (d23 : ∃ fd, Fun K "_law_is_lot" "_law_is_lot" s23 a23 fd)
    (g24 : PySem.W.nsIn K mainGlobals "_law_closing" = some (some (.ref a24)))
    (d24 : ∃ fd, Fun K "_law_closing" "_law_closing" s24 a24 fd)
    (g25 : PySem.W.nsIn K mainGlobals "_law_begins" = some (some (.ref a25)))
    (d25 : ∃ fd, Fun K "_law_begins" "_law_begins" s25 a25 fd)
    (g26 : PySem.W.nsIn K mainGlobals "is_string" = some (some (.ref a26)))
    (d26 : ∃ fd, Fun K "is_string" "is_string" s26 a26 fd)
    (g27 : PySem.W.nsIn K mainGlobals "is_quiet_way" = some (some (.ref a27)))
    (d27 : ∃ fd, Fun K "is_quiet_way" "is_quiet_way" s27 a27 fd)
    (g28 : PySem.W.nsIn K mainGlobals "is_silent_lot" = some (some (.ref a28)))
    (d28 : ∃ fd, Fun K "is_silent_lot" "is_silent_lot" s28 a28 fd)
    (g29 : PySem.W.nsIn K mainGlobals "_law_astray" = some (some (.ref a29)))
    (d29 : ∃ fd, Fun K "_law_astray" "_law_astray" s29 a29 fd)
    (g30 : PySem.W.nsIn K mainGlobals "_law_done" = some (some (.ref a30)))
    (d30 : ∃ fd, Fun K "_law_done" "_law_done" s30 a30 fd)
    (g31 : PySem.W.nsIn K mainGlobals "need_frame" = some (some (.ref a31)))
    (d31 : ∃ fd, Fun K "need_frame" "need_frame" s31 a31 fd)
    (g32 : PySem.W.nsIn K mainGlobals "is_sequence" = some (some (.ref a32)))
    (d32 : ∃ fd, Fun K "is_sequence" "is_sequence" s32 a32 fd)
    (g33 : PySem.W.nsIn K mainGlobals "is_below" = some (some (.ref a33)))
    (d33 : ∃ fd, Fun K "is_below" "is_below" s33 a33 fd)
    (g34 : PySem.W.nsIn K mainGlobals "need_data" = some (some (.ref a34)))
    (d34 : ∃ fd, Fun K "need_data" "need_data" s34 a34 fd)
    (g35 : PySem.W.nsIn K mainGlobals "plain_rows" = some (some (.ref a35)))
    (d35 : ∃ fd, Fun K "plain_rows" "plain_rows" s35 a35 fd)
    (g36 : PySem.W.nsIn K mainGlobals "need_program" = some (some (.ref a36)))
    (d36 : ∃ fd, Fun K "need_program" "need_program" s36 a36 fd)
    (g37 : PySem.W.nsIn K mainGlobals "walked" = some (some (.ref a37)))
    (d37 : ∃ fd, Fun K "walked" "walked" s37 a37 fd)
    (g38 : PySem.W.findIn K (.ref C0) "put_answers" = some (some (.ref a38)))
    (i38 : PySem.W.isFn K (.ref a38) = true)
    (d38 : ∃ fd, Fun K "put_answers" "Silent.put_answers" s38 a38 fd)
    (g39 : PySem.W.nsIn K mainGlobals "_law_number" = some (some (.ref a39)))
    (d39 : ∃ fd, Fun K "_law_number" "_law_number" s39 a39 fd)
    (g40 : PySem.W.nsIn K mainGlobals "_law_asked" = some (some (.ref a40)))
    (d40 : ∃ fd, Fun K "_law_asked" "_law_asked" s40 a40 fd)
    (g41 : PySem.W.nsIn K mainGlobals "_law_answers" = some (some (.ref a41)))
    (d41 : ∃ fd, Fun K "_law_answers" "_law_answers" s41 a41 fd)
    (g42 : PySem.W.nsIn K mainGlobals "are_steps" = some (some (.ref a42)))
    (d42 : ∃ fd, Fun K "are_steps" "are_steps" s42 a42 fd)
    (g43 : PySem.W.nsIn K mainGlobals "is_let" = some (some (.ref a43)))
    (d43 : ∃ fd, Fun K "is_let" "is_let" s43 a43 fd)
    (g44 : PySem.W.nsIn K mainGlobals "answer_row" = some (some (.ref a44)))
    (d44 : ∃ fd, Fun K "answer_row" "answer_row" s44 a44 fd)
    (g45 : PySem.W.nsIn K mainGlobals "are_ascending" = some (some (.ref a45)))
    (d45 : ∃ fd, Fun K "are_ascending" "are_ascending" s45 a45 fd)
    (g46 : PySem.W.nsIn K mainGlobals "is_integer" = some (some (.ref a46)))
    (d46 : ∃ fd, Fun K "is_integer" "is_integer" s46 a46 fd)
    (g47 : PySem.W.nsIn K mainGlobals "is_table" = some (some (.ref a47)))
    (d47 : ∃ fd, Fun K "is_table" "is_table" s47 a47 fd)
    (g48 : PySem.W.nsIn K mainGlobals "is_number" = some (some (.ref a48)))
    (d48 : ∃ fd, Fun K "is_number" "is_number" s48 a48 fd)
    (g49 : PySem.W.nsIn K mainGlobals "is_datum" = some (some (.ref a49)))
    (d49 : ∃ fd, Fun K "is_datum" "is_datum" s49 a49 fd)
    (g50 : PySem.W.nsIn K mainGlobals "is_row" = some (some (.ref a50)))
    (d50 : ∃ fd, Fun K "is_row" "is_row" s50 a50 fd)
    (g51 : PySem.W.nsIn K mainGlobals "wrong_way" = some (some (.ref a51)))
    (d51 : ∃ fd, Fun K "wrong_way" "wrong_way" s51 a51 fd)
    (g52 : PySem.W.nsIn K mainGlobals "told_event" = some (some (.ref a52)))
    (d52 : ∃ fd, Fun K "told_event" "told_event" s52 a52 fd)
    (g53 : PySem.W.nsIn K mainGlobals "datum_after" = some (some (.ref a53)))
    (d53 : ∃ fd, Fun K "datum_after" "datum_after" s53 a53 fd)
    (g54 : PySem.W.nsIn K mainGlobals "are_rows" = some (some (.ref a54)))
    (d54 : ∃ fd, Fun K "are_rows" "are_rows" s54 a54 fd)
    (g55 : PySem.W.nsIn K mainGlobals "put_value" = some (some (.ref a55)))
    (d55 : ∃ fd, Fun K "put_value" "put_value" s55 a55 fd)
    (v0 : ∃ t, PySem.W.nsIn K mainGlobals "MANY_ATOMS" = some (some (.int 10 t)))
    (v1 : ∃ t, PySem.W.nsIn K mainGlobals "MOST_DATA" = some (some (.int 4 t)))
    (v2 : ∃ t, PySem.W.nsIn K mainGlobals "MOST_TABLES" = some (some (.int 4 t)))
    (v3 : ∃ t, PySem.W.nsIn K mainGlobals "MOST_DEEP" = some (some (.int 3 t)))
    (v5 : ∃ t, PySem.W.nsIn K mainGlobals "MOST_TIMES" = some (some (.int 4 t)))
    (v4 : ∃ (a : Addr) (es : Array DictEntry) (n : Nat), PySem.W.nsIn K mainGlobals "ROW_SIZES" = some (some (.ref a)) ∧ K.lookup a = some ⟨.type "dict", none, .dict es n, #[]⟩ ∧ (a == sysModules) = false ∧ PySem.W.KeysLit w.params es.toList ∧ ∀ g : G, RowsAre g es.toList [.tup [.str "op", .int 5], .tup [.str "load", .int 3], .tup [.str "store", .int 3], .tup [.str "fence", .int 1], .tup [.str "fork", .int 4], .tup [.str "loop", .int 3]])
    (b0 : PySem.W.nsIn K mainGlobals "abs" = some none)
    (b1 : PySem.W.nsIn K mainGlobals "all" = some none)
    (b2 : PySem.W.nsIn K mainGlobals "bool" = some none)
    (b3 : PySem.W.nsIn K mainGlobals "enumerate" = some none)
    (b4 : PySem.W.nsIn K mainGlobals "int" = some none)
    (b5 : PySem.W.nsIn K mainGlobals "isinstance" = some none)
    (b6 : PySem.W.nsIn K mainGlobals "len" = some none)
    (b7 : PySem.W.nsIn K mainGlobals "list" = some none)
    (b8 : PySem.W.nsIn K mainGlobals "min" = some none)
    (b9 : PySem.W.nsIn K mainGlobals "range" = some none)
    (b10 : PySem.W.nsIn K mainGlobals "repr" = some none)
    (b11 : PySem.W.nsIn K mainGlobals "set" = some none)
    (b12 : PySem.W.nsIn K mainGlobals "sorted" = some none)
    (b13 : PySem.W.nsIn K mainGlobals "str" = some none)
    (b14 : PySem.W.nsIn K mainGlobals "tuple" = some none)
    (b15 : PySem.W.nsIn K mainGlobals "zip" = some none)
    : ∃ fd : FuncData, (∀ (s : Shared) (u : Value), BindsTo s fd ⟨[u], []⟩ [("_law_script", u)]) ∧ ∀ base : Heap, K.In base → base.Ns mainGlobals mg → FnOk l.prog w K mg base CX0 120 fa fd ["_law_script"] (spLaw K) := by
  have e := (PySem.W.mg_of X G0 g0).symm.trans hfa
  obtain rfl : a0 = fa := by injection e with e; injection e
  obtain ⟨fd0, F0⟩ := d0
  obtain ⟨fd1, F1⟩ := d1
  obtain ⟨fd2, F2⟩ := d2
  obtain ⟨fd3, F3⟩ := d3
  obtain ⟨fd4, F4⟩ := d4
  obtain ⟨fd5, F5⟩ := d5
  obtain ⟨fd6, F6⟩ := d6
  obtain ⟨fd7, F7⟩ := d7
  obtain ⟨fd8, F8⟩ := d8
  obtain ⟨fd9, F9⟩ := d9
  obtain ⟨fd10, F10⟩ := d10
  obtain ⟨fd11, F11⟩ := d11
  obtain ⟨fd12, F12⟩ := d12
  obtain ⟨fd13, F13⟩ := d13
  obtain ⟨fd14, F14⟩ := d14
  obtain ⟨fd15, F15⟩ := d15
  obtain ⟨fd16, F16⟩ := d16
  obtain ⟨fd17, F17⟩ := d17
  obtain ⟨fd18, F18⟩ := d18
  obtain ⟨fd19, F19⟩ := d19
  obtain ⟨fd20, F20⟩ := d20
  obtain ⟨fd21, F21⟩ := d21
  obtain ⟨fd22, F22⟩ := d22
  obtain ⟨fd23, F23⟩ := d23
  obtain ⟨fd24, F24⟩ := d24
  obtain ⟨fd25, F25⟩ := d25
  obtain ⟨fd26, F26⟩ := d26
  obtain ⟨fd27, F27⟩ := d27
  obtain ⟨fd28, F28⟩ := d28
  obtain ⟨fd29, F29⟩ := d29
  obtain ⟨fd30, F30⟩ := d30
  obtain ⟨fd31, F31⟩ := d31
  obtain ⟨fd32, F32⟩ := d32
  obtain ⟨fd33, F33⟩ := d33
  obtain ⟨fd34, F34⟩ := d34
  obtain ⟨fd35, F35⟩ := d35
  obtain ⟨fd36, F36⟩ := d36
  obtain ⟨fd37, F37⟩ := d37
  obtain ⟨fd38, F38⟩ := d38
  obtain ⟨fd39, F39⟩ := d39
  obtain ⟨fd40, F40⟩ := d40
  obtain ⟨fd41, F41⟩ := d41
  obtain ⟨fd42, F42⟩ := d42
  obtain ⟨fd43, F43⟩ := d43
  obtain ⟨fd44, F44⟩ := d44
  obtain ⟨fd45, F45⟩ := d45
  obtain ⟨fd46, F46⟩ := d46
  obtain ⟨fd47, F47⟩ := d47
  obtain ⟨fd48, F48⟩ := d48
  obtain ⟨fd49, F49⟩ := d49
  obtain ⟨fd50, F50⟩ := d50
  obtain ⟨fd51, F51⟩ := d51
  obtain ⟨fd52, F52⟩ := d52
  obtain ⟨fd53, F53⟩ := d53
  obtain ⟨fd54, F54⟩ := d54
  obtain ⟨fd55, F55⟩ := d55
  obtain ⟨t0, v0⟩ := v0
  obtain ⟨t1, v1⟩ := v1
  obtain ⟨t2, v2⟩ := v2
  obtain ⟨t3, v3⟩ := v3
  obtain ⟨t5, v5⟩ := v5
  obtain ⟨ka4, es4, kn4, v4, kl4, ks4, kk4, kr4⟩ := v4
  have good : ∀ infs : List Inf, infs = ([⟨"law", "law", s0, a0, fd0, n0, p0⟩, ⟨"_law_well", "_law_well", s1, a1, fd1, n1, p1⟩, ⟨"_law_task", "_law_task", s2, a2, fd2, n2, p2⟩, ⟨"straight_paper", "straight_paper", s3, a3, fd3, n3, p3⟩, ⟨"_law_holds", "_law_holds", s4, a4, fd4, n4, p4⟩, ⟨"_law_spoilt", "_law_spoilt", s5, a5, fd5, n5, p5⟩, ⟨"_law_others", "_law_others", s6, a6, fd6, n6, p6⟩, ⟨"straight_holds", "straight_holds", s7, a7, fd7, n7, p7⟩, ⟨"_law_drawn", "_law_drawn", s8, a8, fd8, n8, p8⟩, ⟨"_law_one_of", "_law_one_of", s9, a9, fd9, n9, p9⟩, ⟨"_law_data", "_law_data", s10, a10, fd10, n10, p10⟩, ⟨"_law_rows", "_law_rows", s11, a11, fd11, n11, p11⟩, ⟨"_law_run", "_law_run", s12, a12, fd12, n12, p12⟩, ⟨"_law_flat", "_law_flat", s13, a13, fd13, n13, p13⟩, ⟨"need_bare", "need_bare", s14, a14, fd14, n14, p14⟩, ⟨"need_lot", "need_lot", s15, a15, fd15, n15, p15⟩, ⟨"need_few_data", "need_few_data", s16, a16, fd16, n16, p16⟩, ⟨"wanted_rows", "wanted_rows", s17, a17, fd17, n17, p17⟩, ⟨"__init__", "Silent.__init__", s18, a18, fd18, n18, p18⟩, ⟨"grow", "Silent.grow", s19, a19, fd19, n19, p19⟩, ⟨"has_all", "Silent.has_all", s20, a20, fd20, n20, p20⟩, ⟨"steps_to", "steps_to", s21, a21, fd21, n21, p21⟩, ⟨"_law_is_way", "_law_is_way", s22, a22, fd22, n22, p22⟩, ⟨"_law_is_lot", "_law_is_lot", s23, a23, fd23, n23, p23⟩, ⟨"_law_closing", "_law_closing", s24, a24, fd24, n24, p24⟩, ⟨"_law_begins", "_law_begins", s25, a25, fd25, n25, p25⟩, ⟨"is_string", "is_string", s26, a26, fd26, n26, p26⟩, ⟨"is_quiet_way", "is_quiet_way", s27, a27, fd27, n27, p27⟩, ⟨"is_silent_lot", "is_silent_lot", s28, a28, fd28, n28, p28⟩, ⟨"_law_astray", "_law_astray", s29, a29, fd29, n29, p29⟩, ⟨"_law_done", "_law_done", s30, a30, fd30, n30, p30⟩, ⟨"need_frame", "need_frame", s31, a31, fd31, n31, p31⟩, ⟨"is_sequence", "is_sequence", s32, a32, fd32, n32, p32⟩, ⟨"is_below", "is_below", s33, a33, fd33, n33, p33⟩, ⟨"need_data", "need_data", s34, a34, fd34, n34, p34⟩, ⟨"plain_rows", "plain_rows", s35, a35, fd35, n35, p35⟩, ⟨"need_program", "need_program", s36, a36, fd36, n36, p36⟩, ⟨"walked", "walked", s37, a37, fd37, n37, p37⟩, ⟨"put_answers", "Silent.put_answers", s38, a38, fd38, n38, p38⟩, ⟨"_law_number", "_law_number", s39, a39, fd39, n39, p39⟩, ⟨"_law_asked", "_law_asked", s40, a40, fd40, n40, p40⟩, ⟨"_law_answers", "_law_answers", s41, a41, fd41, n41, p41⟩, ⟨"are_steps", "are_steps", s42, a42, fd42, n42, p42⟩, ⟨"is_let", "is_let", s43, a43, fd43, n43, p43⟩, ⟨"answer_row", "answer_row", s44, a44, fd44, n44, p44⟩, ⟨"are_ascending", "are_ascending", s45, a45, fd45, n45, p45⟩, ⟨"is_integer", "is_integer", s46, a46, fd46, n46, p46⟩, ⟨"is_table", "is_table", s47, a47, fd47, n47, p47⟩, ⟨"is_number", "is_number", s48, a48, fd48, n48, p48⟩, ⟨"is_datum", "is_datum", s49, a49, fd49, n49, p49⟩, ⟨"is_row", "is_row", s50, a50, fd50, n50, p50⟩, ⟨"wrong_way", "wrong_way", s51, a51, fd51, n51, p51⟩, ⟨"told_event", "told_event", s52, a52, fd52, n52, p52⟩, ⟨"datum_after", "datum_after", s53, a53, fd53, n53, p53⟩, ⟨"are_rows", "are_rows", s54, a54, fd54, n54, p54⟩, ⟨"put_value", "put_value", s55, a55, fd55, n55, p55⟩] : List Inf) → Good l.prog w K mg (cfgOf K l.prog w ([C0] : List Addr) infs) tb T infs := by
    rintro _ rfl
    constructor
    case eK => rfl
    case eP => rfl
    case ew => rfl
    case fn =>
      intro i I hi
      have z : Each (fun i I => ∃ F, T[i]? = some F ∧ Fun K I.x I.qual I.st I.f I.fd ∧ L2.Binds K I.fd I.ps [] ∧ (cfgOf K l.prog w ([C0] : List Addr) ([⟨"law", "law", s0, a0, fd0, n0, p0⟩, ⟨"_law_well", "_law_well", s1, a1, fd1, n1, p1⟩, ⟨"_law_task", "_law_task", s2, a2, fd2, n2, p2⟩, ⟨"straight_paper", "straight_paper", s3, a3, fd3, n3, p3⟩, ⟨"_law_holds", "_law_holds", s4, a4, fd4, n4, p4⟩, ⟨"_law_spoilt", "_law_spoilt", s5, a5, fd5, n5, p5⟩, ⟨"_law_others", "_law_others", s6, a6, fd6, n6, p6⟩, ⟨"straight_holds", "straight_holds", s7, a7, fd7, n7, p7⟩, ⟨"_law_drawn", "_law_drawn", s8, a8, fd8, n8, p8⟩, ⟨"_law_one_of", "_law_one_of", s9, a9, fd9, n9, p9⟩, ⟨"_law_data", "_law_data", s10, a10, fd10, n10, p10⟩, ⟨"_law_rows", "_law_rows", s11, a11, fd11, n11, p11⟩, ⟨"_law_run", "_law_run", s12, a12, fd12, n12, p12⟩, ⟨"_law_flat", "_law_flat", s13, a13, fd13, n13, p13⟩, ⟨"need_bare", "need_bare", s14, a14, fd14, n14, p14⟩, ⟨"need_lot", "need_lot", s15, a15, fd15, n15, p15⟩, ⟨"need_few_data", "need_few_data", s16, a16, fd16, n16, p16⟩, ⟨"wanted_rows", "wanted_rows", s17, a17, fd17, n17, p17⟩, ⟨"__init__", "Silent.__init__", s18, a18, fd18, n18, p18⟩, ⟨"grow", "Silent.grow", s19, a19, fd19, n19, p19⟩, ⟨"has_all", "Silent.has_all", s20, a20, fd20, n20, p20⟩, ⟨"steps_to", "steps_to", s21, a21, fd21, n21, p21⟩, ⟨"_law_is_way", "_law_is_way", s22, a22, fd22, n22, p22⟩, ⟨"_law_is_lot", "_law_is_lot", s23, a23, fd23, n23, p23⟩, ⟨"_law_closing", "_law_closing", s24, a24, fd24, n24, p24⟩, ⟨"_law_begins", "_law_begins", s25, a25, fd25, n25, p25⟩, ⟨"is_string", "is_string", s26, a26, fd26, n26, p26⟩, ⟨"is_quiet_way", "is_quiet_way", s27, a27, fd27, n27, p27⟩, ⟨"is_silent_lot", "is_silent_lot", s28, a28, fd28, n28, p28⟩, ⟨"_law_astray", "_law_astray", s29, a29, fd29, n29, p29⟩, ⟨"_law_done", "_law_done", s30, a30, fd30, n30, p30⟩, ⟨"need_frame", "need_frame", s31, a31, fd31, n31, p31⟩, ⟨"is_sequence", "is_sequence", s32, a32, fd32, n32, p32⟩, ⟨"is_below", "is_below", s33, a33, fd33, n33, p33⟩, ⟨"need_data", "need_data", s34, a34, fd34, n34, p34⟩, ⟨"plain_rows", "plain_rows", s35, a35, fd35, n35, p35⟩, ⟨"need_program", "need_program", s36, a36, fd36, n36, p36⟩, ⟨"walked", "walked", s37, a37, fd37, n37, p37⟩, ⟨"put_answers", "Silent.put_answers", s38, a38, fd38, n38, p38⟩, ⟨"_law_number", "_law_number", s39, a39, fd39, n39, p39⟩, ⟨"_law_asked", "_law_asked", s40, a40, fd40, n40, p40⟩, ⟨"_law_answers", "_law_answers", s41, a41, fd41, n41, p41⟩, ⟨"are_steps", "are_steps", s42, a42, fd42, n42, p42⟩, ⟨"is_let", "is_let", s43, a43, fd43, n43, p43⟩, ⟨"answer_row", "answer_row", s44, a44, fd44, n44, p44⟩, ⟨"are_ascending", "are_ascending", s45, a45, fd45, n45, p45⟩, ⟨"is_integer", "is_integer", s46, a46, fd46, n46, p46⟩, ⟨"is_table", "is_table", s47, a47, fd47, n47, p47⟩, ⟨"is_number", "is_number", s48, a48, fd48, n48, p48⟩, ⟨"is_datum", "is_datum", s49, a49, fd49, n49, p49⟩, ⟨"is_row", "is_row", s50, a50, fd50, n50, p50⟩, ⟨"wrong_way", "wrong_way", s51, a51, fd51, n51, p51⟩, ⟨"told_event", "told_event", s52, a52, fd52, n52, p52⟩, ⟨"datum_after", "datum_after", s53, a53, fd53, n53, p53⟩, ⟨"are_rows", "are_rows", s54, a54, fd54, n54, p54⟩, ⟨"put_value", "put_value", s55, a55, fd55, n55, p55⟩] : List Inf)).g.gv i = .ref I.f ∧ infB tb I F = true) 0 ([⟨"law", "law", s0, a0, fd0, n0, p0⟩, ⟨"_law_well", "_law_well", s1, a1, fd1, n1, p1⟩, ⟨"_law_task", "_law_task", s2, a2, fd2, n2, p2⟩, ⟨"straight_paper", "straight_paper", s3, a3, fd3, n3, p3⟩, ⟨"_law_holds", "_law_holds", s4, a4, fd4, n4, p4⟩, ⟨"_law_spoilt", "_law_spoilt", s5, a5, fd5, n5, p5⟩, ⟨"_law_others", "_law_others", s6, a6, fd6, n6, p6⟩, ⟨"straight_holds", "straight_holds", s7, a7, fd7, n7, p7⟩, ⟨"_law_drawn", "_law_drawn", s8, a8, fd8, n8, p8⟩, ⟨"_law_one_of", "_law_one_of", s9, a9, fd9, n9, p9⟩, ⟨"_law_data", "_law_data", s10, a10, fd10, n10, p10⟩, ⟨"_law_rows", "_law_rows", s11, a11, fd11, n11, p11⟩, ⟨"_law_run", "_law_run", s12, a12, fd12, n12, p12⟩, ⟨"_law_flat", "_law_flat", s13, a13, fd13, n13, p13⟩, ⟨"need_bare", "need_bare", s14, a14, fd14, n14, p14⟩, ⟨"need_lot", "need_lot", s15, a15, fd15, n15, p15⟩, ⟨"need_few_data", "need_few_data", s16, a16, fd16, n16, p16⟩, ⟨"wanted_rows", "wanted_rows", s17, a17, fd17, n17, p17⟩, ⟨"__init__", "Silent.__init__", s18, a18, fd18, n18, p18⟩, ⟨"grow", "Silent.grow", s19, a19, fd19, n19, p19⟩, ⟨"has_all", "Silent.has_all", s20, a20, fd20, n20, p20⟩, ⟨"steps_to", "steps_to", s21, a21, fd21, n21, p21⟩, ⟨"_law_is_way", "_law_is_way", s22, a22, fd22, n22, p22⟩, ⟨"_law_is_lot", "_law_is_lot", s23, a23, fd23, n23, p23⟩, ⟨"_law_closing", "_law_closing", s24, a24, fd24, n24, p24⟩, ⟨"_law_begins", "_law_begins", s25, a25, fd25, n25, p25⟩, ⟨"is_string", "is_string", s26, a26, fd26, n26, p26⟩, ⟨"is_quiet_way", "is_quiet_way", s27, a27, fd27, n27, p27⟩, ⟨"is_silent_lot", "is_silent_lot", s28, a28, fd28, n28, p28⟩, ⟨"_law_astray", "_law_astray", s29, a29, fd29, n29, p29⟩, ⟨"_law_done", "_law_done", s30, a30, fd30, n30, p30⟩, ⟨"need_frame", "need_frame", s31, a31, fd31, n31, p31⟩, ⟨"is_sequence", "is_sequence", s32, a32, fd32, n32, p32⟩, ⟨"is_below", "is_below", s33, a33, fd33, n33, p33⟩, ⟨"need_data", "need_data", s34, a34, fd34, n34, p34⟩, ⟨"plain_rows", "plain_rows", s35, a35, fd35, n35, p35⟩, ⟨"need_program", "need_program", s36, a36, fd36, n36, p36⟩, ⟨"walked", "walked", s37, a37, fd37, n37, p37⟩, ⟨"put_answers", "Silent.put_answers", s38, a38, fd38, n38, p38⟩, ⟨"_law_number", "_law_number", s39, a39, fd39, n39, p39⟩, ⟨"_law_asked", "_law_asked", s40, a40, fd40, n40, p40⟩, ⟨"_law_answers", "_law_answers", s41, a41, fd41, n41, p41⟩, ⟨"are_steps", "are_steps", s42, a42, fd42, n42, p42⟩, ⟨"is_let", "is_let", s43, a43, fd43, n43, p43⟩, ⟨"answer_row", "answer_row", s44, a44, fd44, n44, p44⟩, ⟨"are_ascending", "are_ascending", s45, a45, fd45, n45, p45⟩, ⟨"is_integer", "is_integer", s46, a46, fd46, n46, p46⟩, ⟨"is_table", "is_table", s47, a47, fd47, n47, p47⟩, ⟨"is_number", "is_number", s48, a48, fd48, n48, p48⟩, ⟨"is_datum", "is_datum", s49, a49, fd49, n49, p49⟩, ⟨"is_row", "is_row", s50, a50, fd50, n50, p50⟩, ⟨"wrong_way", "wrong_way", s51, a51, fd51, n51, p51⟩, ⟨"told_event", "told_event", s52, a52, fd52, n52, p52⟩, ⟨"datum_after", "datum_after", s53, a53, fd53, n53, p53⟩, ⟨"are_rows", "are_rows", s54, a54, fd54, n54, p54⟩, ⟨"put_value", "put_value", s55, a55, fd55, n55, p55⟩] : List Inf) :=
        .cons ⟨f0, rfl, F0, F0.binds fun _ _ _ _ _ _ us hl => match us, hl with | [_], _ => rfl, rfl, (infB_mk _ _ _ _).trans ck0⟩ <|
        .cons ⟨f1, rfl, F1, F1.binds fun _ _ _ _ _ _ us hl => match us, hl with | [_, _], _ => rfl, rfl, (infB_mk _ _ _ _).trans ck1⟩ <|
        .cons ⟨f2, rfl, F2, F2.binds fun _ _ _ _ _ _ us hl => match us, hl with | [_], _ => rfl, rfl, (infB_mk _ _ _ _).trans ck2⟩ <|
        .cons ⟨f3, rfl, F3, F3.binds fun _ _ _ _ _ _ us hl => match us, hl with | [_, _, _, _], _ => rfl, rfl, (infB_mk _ _ _ _).trans ck3⟩ <|
        .cons ⟨f4, rfl, F4, F4.binds fun _ _ _ _ _ _ us hl => match us, hl with | [_, _, _, _, _], _ => rfl, rfl, (infB_mk _ _ _ _).trans ck4⟩ <|
        .cons ⟨f5, rfl, F5, F5.binds fun _ _ _ _ _ _ us hl => match us, hl with | [_, _], _ => rfl, rfl, (infB_mk _ _ _ _).trans ck5⟩ <|
        .cons ⟨f6, rfl, F6, F6.binds fun _ _ _ _ _ _ us hl => match us, hl with | [_, _, _, _, _], _ => rfl, rfl, (infB_mk _ _ _ _).trans ck6⟩ <|
        .cons ⟨f7, rfl, F7, F7.binds fun _ _ _ _ _ _ us hl => match us, hl with | [_, _, _, _, _], _ => rfl, rfl, (infB_mk _ _ _ _).trans ck7⟩ <|
        .cons ⟨f8, rfl, F8, F8.binds fun _ _ _ _ _ _ us hl => match us, hl with | [_, _], _ => rfl, rfl, (infB_mk _ _ _ _).trans ck8⟩ <|
        .cons ⟨f9, rfl, F9, F9.binds fun _ _ _ _ _ _ us hl => match us, hl with | [_, _], _ => rfl, rfl, (infB_mk _ _ _ _).trans ck9⟩ <|
        .cons ⟨f10, rfl, F10, F10.binds fun _ _ _ _ _ _ us hl => match us, hl with | [_], _ => rfl, rfl, (infB_mk _ _ _ _).trans ck10⟩ <|
        .cons ⟨f11, rfl, F11, F11.binds fun _ _ _ _ _ _ us hl => match us, hl with | [_, _, _, _], _ => rfl, rfl, (infB_mk _ _ _ _).trans ck11⟩ <|
        .cons ⟨f12, rfl, F12, F12.binds fun _ _ _ _ _ _ us hl => match us, hl with | [_, _, _, _, _], _ => rfl, rfl, (infB_mk _ _ _ _).trans ck12⟩ <|
        .cons ⟨f13, rfl, F13, F13.binds fun _ _ _ _ _ _ us hl => match us, hl with | [_], _ => rfl, rfl, (infB_mk _ _ _ _).trans ck13⟩ <|
        .cons ⟨f14, rfl, F14, F14.binds fun _ _ _ _ _ _ us hl => match us, hl with | [_], _ => rfl, rfl, (infB_mk _ _ _ _).trans ck14⟩ <|
        .cons ⟨f15, rfl, F15, F15.binds fun _ _ _ _ _ _ us hl => match us, hl with | [_], _ => rfl, rfl, (infB_mk _ _ _ _).trans ck15⟩ <|
        .cons ⟨f16, rfl, F16, F16.binds fun _ _ _ _ _ _ us hl => match us, hl with | [_, _], _ => rfl, rfl, (infB_mk _ _ _ _).trans ck16⟩ <|
        .cons ⟨f17, rfl, F17, F17.binds fun _ _ _ _ _ _ us hl => match us, hl with | [_, _, _], _ => rfl, rfl, (infB_mk _ _ _ _).trans ck17⟩ <|
        .cons ⟨f18, rfl, F18, F18.binds fun _ _ _ _ _ _ us hl => match us, hl with | [_, _, _, _], _ => rfl, rfl, (infB_mk _ _ _ _).trans ck18⟩ <|
        .cons ⟨f19, rfl, F19, F19.binds fun _ _ _ _ _ _ us hl => match us, hl with | [_, _], _ => rfl, rfl, (infB_mk _ _ _ _).trans ck19⟩ <|
        .cons ⟨f20, rfl, F20, F20.binds fun _ _ _ _ _ _ us hl => match us, hl with | [_, _], _ => rfl, rfl, (infB_mk _ _ _ _).trans ck20⟩ <|
        .cons ⟨f21, rfl, F21, F21.binds fun _ _ _ _ _ _ us hl => match us, hl with | [_, _, _, _], _ => rfl, rfl, (infB_mk _ _ _ _).trans ck21⟩ <|
        .cons ⟨f22, rfl, F22, F22.binds fun _ _ _ _ _ _ us hl => match us, hl with | [_, _, _, _, _, _], _ => rfl, rfl, (infB_mk _ _ _ _).trans ck22⟩ <|
        .cons ⟨f23, rfl, F23, F23.binds fun _ _ _ _ _ _ us hl => match us, hl with | [_, _, _, _, _], _ => rfl, rfl, (infB_mk _ _ _ _).trans ck23⟩ <|
        .cons ⟨f24, rfl, F24, F24.binds fun _ _ _ _ _ _ us hl => match us, hl with | [_, _, _], _ => rfl, rfl, (infB_mk _ _ _ _).trans ck24⟩ <|
        .cons ⟨f25, rfl, F25, F25.binds fun _ _ _ _ _ _ us hl => match us, hl with | [_, _], _ => rfl, rfl, (infB_mk _ _ _ _).trans ck25⟩ <|
        .cons ⟨f26, rfl, F26, F26.binds fun _ _ _ _ _ _ us hl => match us, hl with | [_], _ => rfl, rfl, (infB_mk _ _ _ _).trans ck26⟩ <|
        .cons ⟨f27, rfl, F27, F27.binds fun _ _ _ _ _ _ us hl => match us, hl with | [_, _, _, _, _, _], _ => rfl, rfl, (infB_mk _ _ _ _).trans ck27⟩ <|
        .cons ⟨f28, rfl, F28, F28.binds fun _ _ _ _ _ _ us hl => match us, hl with | [_, _, _, _], _ => rfl, rfl, (infB_mk _ _ _ _).trans ck28⟩ <|
        .cons ⟨f29, rfl, F29, F29.binds fun _ _ _ _ _ _ us hl => match us, hl with | [_, _, _, _], _ => rfl, rfl, (infB_mk _ _ _ _).trans ck29⟩ <|
        .cons ⟨f30, rfl, F30, F30.binds fun _ _ _ _ _ _ us hl => match us, hl with | [_, _, _], _ => rfl, rfl, (infB_mk _ _ _ _).trans ck30⟩ <|
        .cons ⟨f31, rfl, F31, F31.binds fun _ _ _ _ _ _ us hl => match us, hl with | [_], _ => rfl, rfl, (infB_mk _ _ _ _).trans ck31⟩ <|
        .cons ⟨f32, rfl, F32, F32.binds fun _ _ _ _ _ _ us hl => match us, hl with | [_], _ => rfl, rfl, (infB_mk _ _ _ _).trans ck32⟩ <|
        .cons ⟨f33, rfl, F33, F33.binds fun _ _ _ _ _ _ us hl => match us, hl with | [_, _], _ => rfl, rfl, (infB_mk _ _ _ _).trans ck33⟩ <|
        .cons ⟨f34, rfl, F34, F34.binds fun _ _ _ _ _ _ us hl => match us, hl with | [_, _], _ => rfl, rfl, (infB_mk _ _ _ _).trans ck34⟩ <|
        .cons ⟨f35, rfl, F35, F35.binds fun _ _ _ _ _ _ us hl => match us, hl with | [_], _ => rfl, rfl, (infB_mk _ _ _ _).trans ck35⟩ <|
        .cons ⟨f36, rfl, F36, F36.binds fun _ _ _ _ _ _ us hl => match us, hl with | [_, _], _ => rfl, rfl, (infB_mk _ _ _ _).trans ck36⟩ <|
        .cons ⟨f37, rfl, F37, F37.binds fun _ _ _ _ _ _ us hl => match us, hl with | [_, _, _], _ => rfl, rfl, (infB_mk _ _ _ _).trans ck37⟩ <|
        .cons ⟨f38, rfl, F38, F38.binds fun _ _ _ _ _ _ us hl => match us, hl with | [_, _, _], _ => rfl, rfl, (infB_mk _ _ _ _).trans ck38⟩ <|
        .cons ⟨f39, rfl, F39, F39.binds fun _ _ _ _ _ _ us hl => match us, hl with | [_, _], _ => rfl, rfl, (infB_mk _ _ _ _).trans ck39⟩ <|
        .cons ⟨f40, rfl, F40, F40.binds fun _ _ _ _ _ _ us hl => match us, hl with | [_, _, _], _ => rfl, rfl, (infB_mk _ _ _ _).trans ck40⟩ <|
        .cons ⟨f41, rfl, F41, F41.binds fun _ _ _ _ _ _ us hl => match us, hl with | [_, _, _, _], _ => rfl, rfl, (infB_mk _ _ _ _).trans ck41⟩ <|
        .cons ⟨f42, rfl, F42, F42.binds fun _ _ _ _ _ _ us hl => match us, hl with | [_, _, _], _ => rfl, rfl, (infB_mk _ _ _ _).trans ck42⟩ <|
        .cons ⟨f43, rfl, F43, F43.binds fun _ _ _ _ _ _ us hl => match us, hl with | [_, _, _], _ => rfl, rfl, (infB_mk _ _ _ _).trans ck43⟩ <|
        .cons ⟨f44, rfl, F44, F44.binds fun _ _ _ _ _ _ us hl => match us, hl with | [_, _, _, _], _ => rfl, rfl, (infB_mk _ _ _ _).trans ck44⟩ <|
        .cons ⟨f45, rfl, F45, F45.binds fun _ _ _ _ _ _ us hl => match us, hl with | [_], _ => rfl, rfl, (infB_mk _ _ _ _).trans ck45⟩ <|
        .cons ⟨f46, rfl, F46, F46.binds fun _ _ _ _ _ _ us hl => match us, hl with | [_], _ => rfl, rfl, (infB_mk _ _ _ _).trans ck46⟩ <|
        .cons ⟨f47, rfl, F47, F47.binds fun _ _ _ _ _ _ us hl => match us, hl with | [_, _], _ => rfl, rfl, (infB_mk _ _ _ _).trans ck47⟩ <|
        .cons ⟨f48, rfl, F48, F48.binds fun _ _ _ _ _ _ us hl => match us, hl with | [_], _ => rfl, rfl, (infB_mk _ _ _ _).trans ck48⟩ <|
        .cons ⟨f49, rfl, F49, F49.binds fun _ _ _ _ _ _ us hl => match us, hl with | [_, _], _ => rfl, rfl, (infB_mk _ _ _ _).trans ck49⟩ <|
        .cons ⟨f50, rfl, F50, F50.binds fun _ _ _ _ _ _ us hl => match us, hl with | [_, _], _ => rfl, rfl, (infB_mk _ _ _ _).trans ck50⟩ <|
        .cons ⟨f51, rfl, F51, F51.binds fun _ _ _ _ _ _ us hl => match us, hl with | [_, _, _], _ => rfl, rfl, (infB_mk _ _ _ _).trans ck51⟩ <|
        .cons ⟨f52, rfl, F52, F52.binds fun _ _ _ _ _ _ us hl => match us, hl with | [_, _, _], _ => rfl, rfl, (infB_mk _ _ _ _).trans ck52⟩ <|
        .cons ⟨f53, rfl, F53, F53.binds fun _ _ _ _ _ _ us hl => match us, hl with | [_, _, _, _], _ => rfl, rfl, (infB_mk _ _ _ _).trans ck53⟩ <|
        .cons ⟨f54, rfl, F54, F54.binds fun _ _ _ _ _ _ us hl => match us, hl with | [_, _], _ => rfl, rfl, (infB_mk _ _ _ _).trans ck54⟩ <|
        .cons ⟨f55, rfl, F55, F55.binds fun _ _ _ _ _ _ us hl => match us, hl with | [_, _, _], _ => rfl, rfl, (infB_mk _ _ _ _).trans ck55⟩ <|
        .nil
      have y := z.get i I hi
      rw [Nat.zero_add] at y
      exact y
    case fns =>
      intro x0 x1 x2 hm
      exact AllM.get (P := fun q : Str × Nat × Nat => ∃ I, ([⟨"law", "law", s0, a0, fd0, n0, p0⟩, ⟨"_law_well", "_law_well", s1, a1, fd1, n1, p1⟩, ⟨"_law_task", "_law_task", s2, a2, fd2, n2, p2⟩, ⟨"straight_paper", "straight_paper", s3, a3, fd3, n3, p3⟩, ⟨"_law_holds", "_law_holds", s4, a4, fd4, n4, p4⟩, ⟨"_law_spoilt", "_law_spoilt", s5, a5, fd5, n5, p5⟩, ⟨"_law_others", "_law_others", s6, a6, fd6, n6, p6⟩, ⟨"straight_holds", "straight_holds", s7, a7, fd7, n7, p7⟩, ⟨"_law_drawn", "_law_drawn", s8, a8, fd8, n8, p8⟩, ⟨"_law_one_of", "_law_one_of", s9, a9, fd9, n9, p9⟩, ⟨"_law_data", "_law_data", s10, a10, fd10, n10, p10⟩, ⟨"_law_rows", "_law_rows", s11, a11, fd11, n11, p11⟩, ⟨"_law_run", "_law_run", s12, a12, fd12, n12, p12⟩, ⟨"_law_flat", "_law_flat", s13, a13, fd13, n13, p13⟩, ⟨"need_bare", "need_bare", s14, a14, fd14, n14, p14⟩, ⟨"need_lot", "need_lot", s15, a15, fd15, n15, p15⟩, ⟨"need_few_data", "need_few_data", s16, a16, fd16, n16, p16⟩, ⟨"wanted_rows", "wanted_rows", s17, a17, fd17, n17, p17⟩, ⟨"__init__", "Silent.__init__", s18, a18, fd18, n18, p18⟩, ⟨"grow", "Silent.grow", s19, a19, fd19, n19, p19⟩, ⟨"has_all", "Silent.has_all", s20, a20, fd20, n20, p20⟩, ⟨"steps_to", "steps_to", s21, a21, fd21, n21, p21⟩, ⟨"_law_is_way", "_law_is_way", s22, a22, fd22, n22, p22⟩, ⟨"_law_is_lot", "_law_is_lot", s23, a23, fd23, n23, p23⟩, ⟨"_law_closing", "_law_closing", s24, a24, fd24, n24, p24⟩, ⟨"_law_begins", "_law_begins", s25, a25, fd25, n25, p25⟩, ⟨"is_string", "is_string", s26, a26, fd26, n26, p26⟩, ⟨"is_quiet_way", "is_quiet_way", s27, a27, fd27, n27, p27⟩, ⟨"is_silent_lot", "is_silent_lot", s28, a28, fd28, n28, p28⟩, ⟨"_law_astray", "_law_astray", s29, a29, fd29, n29, p29⟩, ⟨"_law_done", "_law_done", s30, a30, fd30, n30, p30⟩, ⟨"need_frame", "need_frame", s31, a31, fd31, n31, p31⟩, ⟨"is_sequence", "is_sequence", s32, a32, fd32, n32, p32⟩, ⟨"is_below", "is_below", s33, a33, fd33, n33, p33⟩, ⟨"need_data", "need_data", s34, a34, fd34, n34, p34⟩, ⟨"plain_rows", "plain_rows", s35, a35, fd35, n35, p35⟩, ⟨"need_program", "need_program", s36, a36, fd36, n36, p36⟩, ⟨"walked", "walked", s37, a37, fd37, n37, p37⟩, ⟨"put_answers", "Silent.put_answers", s38, a38, fd38, n38, p38⟩, ⟨"_law_number", "_law_number", s39, a39, fd39, n39, p39⟩, ⟨"_law_asked", "_law_asked", s40, a40, fd40, n40, p40⟩, ⟨"_law_answers", "_law_answers", s41, a41, fd41, n41, p41⟩, ⟨"are_steps", "are_steps", s42, a42, fd42, n42, p42⟩, ⟨"is_let", "is_let", s43, a43, fd43, n43, p43⟩, ⟨"answer_row", "answer_row", s44, a44, fd44, n44, p44⟩, ⟨"are_ascending", "are_ascending", s45, a45, fd45, n45, p45⟩, ⟨"is_integer", "is_integer", s46, a46, fd46, n46, p46⟩, ⟨"is_table", "is_table", s47, a47, fd47, n47, p47⟩, ⟨"is_number", "is_number", s48, a48, fd48, n48, p48⟩, ⟨"is_datum", "is_datum", s49, a49, fd49, n49, p49⟩, ⟨"is_row", "is_row", s50, a50, fd50, n50, p50⟩, ⟨"wrong_way", "wrong_way", s51, a51, fd51, n51, p51⟩, ⟨"told_event", "told_event", s52, a52, fd52, n52, p52⟩, ⟨"datum_after", "datum_after", s53, a53, fd53, n53, p53⟩, ⟨"are_rows", "are_rows", s54, a54, fd54, n54, p54⟩, ⟨"put_value", "put_value", s55, a55, fd55, n55, p55⟩] : List Inf)[q.2.1]? = some I ∧ I.ps.length = q.2.2 ∧ mg q.1 = some (.ref I.f)) (l := [(("law" : Str), 0, 1), (("_law_well" : Str), 1, 2), (("_law_task" : Str), 2, 1), (("straight_paper" : Str), 3, 4), (("_law_holds" : Str), 4, 5), (("_law_spoilt" : Str), 5, 2), (("_law_others" : Str), 6, 5), (("straight_holds" : Str), 7, 5), (("_law_drawn" : Str), 8, 2), (("_law_one_of" : Str), 9, 2), (("_law_data" : Str), 10, 1), (("_law_rows" : Str), 11, 4), (("_law_run" : Str), 12, 5), (("_law_flat" : Str), 13, 1), (("need_bare" : Str), 14, 1), (("need_lot" : Str), 15, 1), (("need_few_data" : Str), 16, 2), (("wanted_rows" : Str), 17, 3), (("steps_to" : Str), 21, 4), (("_law_is_way" : Str), 22, 6), (("_law_is_lot" : Str), 23, 5), (("_law_closing" : Str), 24, 3), (("_law_begins" : Str), 25, 2), (("is_string" : Str), 26, 1), (("is_quiet_way" : Str), 27, 6), (("is_silent_lot" : Str), 28, 4), (("_law_astray" : Str), 29, 4), (("_law_done" : Str), 30, 3), (("need_frame" : Str), 31, 1), (("is_sequence" : Str), 32, 1), (("is_below" : Str), 33, 2), (("need_data" : Str), 34, 2), (("plain_rows" : Str), 35, 1), (("need_program" : Str), 36, 2), (("walked" : Str), 37, 3), (("_law_number" : Str), 39, 2), (("_law_asked" : Str), 40, 3), (("_law_answers" : Str), 41, 4), (("are_steps" : Str), 42, 3), (("is_let" : Str), 43, 3), (("answer_row" : Str), 44, 4), (("are_ascending" : Str), 45, 1), (("is_integer" : Str), 46, 1), (("is_table" : Str), 47, 2), (("is_number" : Str), 48, 1), (("is_datum" : Str), 49, 2), (("is_row" : Str), 50, 2), (("wrong_way" : Str), 51, 3), (("told_event" : Str), 52, 3), (("datum_after" : Str), 53, 4), (("are_rows" : Str), 54, 2), (("put_value" : Str), 55, 3)]) (.cons ⟨_, rfl, rfl, PySem.W.mg_of X G0 g0⟩ <| .cons ⟨_, rfl, rfl, PySem.W.mg_of X G0 g1⟩ <| .cons ⟨_, rfl, rfl, PySem.W.mg_of X G0 g2⟩ <| .cons ⟨_, rfl, rfl, PySem.W.mg_of X G0 g3⟩ <| .cons ⟨_, rfl, rfl, PySem.W.mg_of X G0 g4⟩ <| .cons ⟨_, rfl, rfl, PySem.W.mg_of X G0 g5⟩ <| .cons ⟨_, rfl, rfl, PySem.W.mg_of X G0 g6⟩ <| .cons ⟨_, rfl, rfl, PySem.W.mg_of X G0 g7⟩ <| .cons ⟨_, rfl, rfl, PySem.W.mg_of X G0 g8⟩ <| .cons ⟨_, rfl, rfl, PySem.W.mg_of X G0 g9⟩ <| .cons ⟨_, rfl, rfl, PySem.W.mg_of X G0 g10⟩ <| .cons ⟨_, rfl, rfl, PySem.W.mg_of X G0 g11⟩ <| .cons ⟨_, rfl, rfl, PySem.W.mg_of X G0 g12⟩ <| .cons ⟨_, rfl, rfl, PySem.W.mg_of X G0 g13⟩ <| .cons ⟨_, rfl, rfl, PySem.W.mg_of X G0 g14⟩ <| .cons ⟨_, rfl, rfl, PySem.W.mg_of X G0 g15⟩ <| .cons ⟨_, rfl, rfl, PySem.W.mg_of X G0 g16⟩ <| .cons ⟨_, rfl, rfl, PySem.W.mg_of X G0 g17⟩ <| .cons ⟨_, rfl, rfl, PySem.W.mg_of X G0 g21⟩ <| .cons ⟨_, rfl, rfl, PySem.W.mg_of X G0 g22⟩ <| .cons ⟨_, rfl, rfl, PySem.W.mg_of X G0 g23⟩ <| .cons ⟨_, rfl, rfl, PySem.W.mg_of X G0 g24⟩ <| .cons ⟨_, rfl, rfl, PySem.W.mg_of X G0 g25⟩ <| .cons ⟨_, rfl, rfl, PySem.W.mg_of X G0 g26⟩ <| .cons ⟨_, rfl, rfl, PySem.W.mg_of X G0 g27⟩ <| .cons ⟨_, rfl, rfl, PySem.W.mg_of X G0 g28⟩ <| .cons ⟨_, rfl, rfl, PySem.W.mg_of X G0 g29⟩ <| .cons ⟨_, rfl, rfl, PySem.W.mg_of X G0 g30⟩ <| .cons ⟨_, rfl, rfl, PySem.W.mg_of X G0 g31⟩ <| .cons ⟨_, rfl, rfl, PySem.W.mg_of X G0 g32⟩ <| .cons ⟨_, rfl, rfl, PySem.W.mg_of X G0 g33⟩ <| .cons ⟨_, rfl, rfl, PySem.W.mg_of X G0 g34⟩ <| .cons ⟨_, rfl, rfl, PySem.W.mg_of X G0 g35⟩ <| .cons ⟨_, rfl, rfl, PySem.W.mg_of X G0 g36⟩ <| .cons ⟨_, rfl, rfl, PySem.W.mg_of X G0 g37⟩ <| .cons ⟨_, rfl, rfl, PySem.W.mg_of X G0 g39⟩ <| .cons ⟨_, rfl, rfl, PySem.W.mg_of X G0 g40⟩ <| .cons ⟨_, rfl, rfl, PySem.W.mg_of X G0 g41⟩ <| .cons ⟨_, rfl, rfl, PySem.W.mg_of X G0 g42⟩ <| .cons ⟨_, rfl, rfl, PySem.W.mg_of X G0 g43⟩ <| .cons ⟨_, rfl, rfl, PySem.W.mg_of X G0 g44⟩ <| .cons ⟨_, rfl, rfl, PySem.W.mg_of X G0 g45⟩ <| .cons ⟨_, rfl, rfl, PySem.W.mg_of X G0 g46⟩ <| .cons ⟨_, rfl, rfl, PySem.W.mg_of X G0 g47⟩ <| .cons ⟨_, rfl, rfl, PySem.W.mg_of X G0 g48⟩ <| .cons ⟨_, rfl, rfl, PySem.W.mg_of X G0 g49⟩ <| .cons ⟨_, rfl, rfl, PySem.W.mg_of X G0 g50⟩ <| .cons ⟨_, rfl, rfl, PySem.W.mg_of X G0 g51⟩ <| .cons ⟨_, rfl, rfl, PySem.W.mg_of X G0 g52⟩ <| .cons ⟨_, rfl, rfl, PySem.W.mg_of X G0 g53⟩ <| .cons ⟨_, rfl, rfl, PySem.W.mg_of X G0 g54⟩ <| .cons ⟨_, rfl, rfl, PySem.W.mg_of X G0 g55⟩ <| .nil) (x0, x1, x2) hm
    case cls =>
      intro x0 x1 x2 x3 hm
      exact AllM.get (P := fun q : Str × Nat × Nat × Nat => ∃ I, ([⟨"law", "law", s0, a0, fd0, n0, p0⟩, ⟨"_law_well", "_law_well", s1, a1, fd1, n1, p1⟩, ⟨"_law_task", "_law_task", s2, a2, fd2, n2, p2⟩, ⟨"straight_paper", "straight_paper", s3, a3, fd3, n3, p3⟩, ⟨"_law_holds", "_law_holds", s4, a4, fd4, n4, p4⟩, ⟨"_law_spoilt", "_law_spoilt", s5, a5, fd5, n5, p5⟩, ⟨"_law_others", "_law_others", s6, a6, fd6, n6, p6⟩, ⟨"straight_holds", "straight_holds", s7, a7, fd7, n7, p7⟩, ⟨"_law_drawn", "_law_drawn", s8, a8, fd8, n8, p8⟩, ⟨"_law_one_of", "_law_one_of", s9, a9, fd9, n9, p9⟩, ⟨"_law_data", "_law_data", s10, a10, fd10, n10, p10⟩, ⟨"_law_rows", "_law_rows", s11, a11, fd11, n11, p11⟩, ⟨"_law_run", "_law_run", s12, a12, fd12, n12, p12⟩, ⟨"_law_flat", "_law_flat", s13, a13, fd13, n13, p13⟩, ⟨"need_bare", "need_bare", s14, a14, fd14, n14, p14⟩, ⟨"need_lot", "need_lot", s15, a15, fd15, n15, p15⟩, ⟨"need_few_data", "need_few_data", s16, a16, fd16, n16, p16⟩, ⟨"wanted_rows", "wanted_rows", s17, a17, fd17, n17, p17⟩, ⟨"__init__", "Silent.__init__", s18, a18, fd18, n18, p18⟩, ⟨"grow", "Silent.grow", s19, a19, fd19, n19, p19⟩, ⟨"has_all", "Silent.has_all", s20, a20, fd20, n20, p20⟩, ⟨"steps_to", "steps_to", s21, a21, fd21, n21, p21⟩, ⟨"_law_is_way", "_law_is_way", s22, a22, fd22, n22, p22⟩, ⟨"_law_is_lot", "_law_is_lot", s23, a23, fd23, n23, p23⟩, ⟨"_law_closing", "_law_closing", s24, a24, fd24, n24, p24⟩, ⟨"_law_begins", "_law_begins", s25, a25, fd25, n25, p25⟩, ⟨"is_string", "is_string", s26, a26, fd26, n26, p26⟩, ⟨"is_quiet_way", "is_quiet_way", s27, a27, fd27, n27, p27⟩, ⟨"is_silent_lot", "is_silent_lot", s28, a28, fd28, n28, p28⟩, ⟨"_law_astray", "_law_astray", s29, a29, fd29, n29, p29⟩, ⟨"_law_done", "_law_done", s30, a30, fd30, n30, p30⟩, ⟨"need_frame", "need_frame", s31, a31, fd31, n31, p31⟩, ⟨"is_sequence", "is_sequence", s32, a32, fd32, n32, p32⟩, ⟨"is_below", "is_below", s33, a33, fd33, n33, p33⟩, ⟨"need_data", "need_data", s34, a34, fd34, n34, p34⟩, ⟨"plain_rows", "plain_rows", s35, a35, fd35, n35, p35⟩, ⟨"need_program", "need_program", s36, a36, fd36, n36, p36⟩, ⟨"walked", "walked", s37, a37, fd37, n37, p37⟩, ⟨"put_answers", "Silent.put_answers", s38, a38, fd38, n38, p38⟩, ⟨"_law_number", "_law_number", s39, a39, fd39, n39, p39⟩, ⟨"_law_asked", "_law_asked", s40, a40, fd40, n40, p40⟩, ⟨"_law_answers", "_law_answers", s41, a41, fd41, n41, p41⟩, ⟨"are_steps", "are_steps", s42, a42, fd42, n42, p42⟩, ⟨"is_let", "is_let", s43, a43, fd43, n43, p43⟩, ⟨"answer_row", "answer_row", s44, a44, fd44, n44, p44⟩, ⟨"are_ascending", "are_ascending", s45, a45, fd45, n45, p45⟩, ⟨"is_integer", "is_integer", s46, a46, fd46, n46, p46⟩, ⟨"is_table", "is_table", s47, a47, fd47, n47, p47⟩, ⟨"is_number", "is_number", s48, a48, fd48, n48, p48⟩, ⟨"is_datum", "is_datum", s49, a49, fd49, n49, p49⟩, ⟨"is_row", "is_row", s50, a50, fd50, n50, p50⟩, ⟨"wrong_way", "wrong_way", s51, a51, fd51, n51, p51⟩, ⟨"told_event", "told_event", s52, a52, fd52, n52, p52⟩, ⟨"datum_after", "datum_after", s53, a53, fd53, n53, p53⟩, ⟨"are_rows", "are_rows", s54, a54, fd54, n54, p54⟩, ⟨"put_value", "put_value", s55, a55, fd55, n55, p55⟩] : List Inf)[q.2.2.1]? = some I ∧ I.ps.length = q.2.2.2 ∧ mg q.1 = some (.ref (clOf ([C0] : List Addr) q.2.1)) ∧ Mk K (clOf ([C0] : List Addr) q.2.1) I.f) (l := [(("Silent" : Str), 0, 18, 4)]) (.cons ⟨_, rfl, rfl, PySem.W.mg_of X G0 cC0, ⟨cm0, g18, i18, ck_0⟩⟩ <| .nil) (x0, x1, x2, x3) hm
    case mth =>
      intro x0 x1 x2 x3 hm
      exact AllM.get (P := fun q : Nat × Str × Nat × Nat => ∃ I, ([⟨"law", "law", s0, a0, fd0, n0, p0⟩, ⟨"_law_well", "_law_well", s1, a1, fd1, n1, p1⟩, ⟨"_law_task", "_law_task", s2, a2, fd2, n2, p2⟩, ⟨"straight_paper", "straight_paper", s3, a3, fd3, n3, p3⟩, ⟨"_law_holds", "_law_holds", s4, a4, fd4, n4, p4⟩, ⟨"_law_spoilt", "_law_spoilt", s5, a5, fd5, n5, p5⟩, ⟨"_law_others", "_law_others", s6, a6, fd6, n6, p6⟩, ⟨"straight_holds", "straight_holds", s7, a7, fd7, n7, p7⟩, ⟨"_law_drawn", "_law_drawn", s8, a8, fd8, n8, p8⟩, ⟨"_law_one_of", "_law_one_of", s9, a9, fd9, n9, p9⟩, ⟨"_law_data", "_law_data", s10, a10, fd10, n10, p10⟩, ⟨"_law_rows", "_law_rows", s11, a11, fd11, n11, p11⟩, ⟨"_law_run", "_law_run", s12, a12, fd12, n12, p12⟩, ⟨"_law_flat", "_law_flat", s13, a13, fd13, n13, p13⟩, ⟨"need_bare", "need_bare", s14, a14, fd14, n14, p14⟩, ⟨"need_lot", "need_lot", s15, a15, fd15, n15, p15⟩, ⟨"need_few_data", "need_few_data", s16, a16, fd16, n16, p16⟩, ⟨"wanted_rows", "wanted_rows", s17, a17, fd17, n17, p17⟩, ⟨"__init__", "Silent.__init__", s18, a18, fd18, n18, p18⟩, ⟨"grow", "Silent.grow", s19, a19, fd19, n19, p19⟩, ⟨"has_all", "Silent.has_all", s20, a20, fd20, n20, p20⟩, ⟨"steps_to", "steps_to", s21, a21, fd21, n21, p21⟩, ⟨"_law_is_way", "_law_is_way", s22, a22, fd22, n22, p22⟩, ⟨"_law_is_lot", "_law_is_lot", s23, a23, fd23, n23, p23⟩, ⟨"_law_closing", "_law_closing", s24, a24, fd24, n24, p24⟩, ⟨"_law_begins", "_law_begins", s25, a25, fd25, n25, p25⟩, ⟨"is_string", "is_string", s26, a26, fd26, n26, p26⟩, ⟨"is_quiet_way", "is_quiet_way", s27, a27, fd27, n27, p27⟩, ⟨"is_silent_lot", "is_silent_lot", s28, a28, fd28, n28, p28⟩, ⟨"_law_astray", "_law_astray", s29, a29, fd29, n29, p29⟩, ⟨"_law_done", "_law_done", s30, a30, fd30, n30, p30⟩, ⟨"need_frame", "need_frame", s31, a31, fd31, n31, p31⟩, ⟨"is_sequence", "is_sequence", s32, a32, fd32, n32, p32⟩, ⟨"is_below", "is_below", s33, a33, fd33, n33, p33⟩, ⟨"need_data", "need_data", s34, a34, fd34, n34, p34⟩, ⟨"plain_rows", "plain_rows", s35, a35, fd35, n35, p35⟩, ⟨"need_program", "need_program", s36, a36, fd36, n36, p36⟩, ⟨"walked", "walked", s37, a37, fd37, n37, p37⟩, ⟨"put_answers", "Silent.put_answers", s38, a38, fd38, n38, p38⟩, ⟨"_law_number", "_law_number", s39, a39, fd39, n39, p39⟩, ⟨"_law_asked", "_law_asked", s40, a40, fd40, n40, p40⟩, ⟨"_law_answers", "_law_answers", s41, a41, fd41, n41, p41⟩, ⟨"are_steps", "are_steps", s42, a42, fd42, n42, p42⟩, ⟨"is_let", "is_let", s43, a43, fd43, n43, p43⟩, ⟨"answer_row", "answer_row", s44, a44, fd44, n44, p44⟩, ⟨"are_ascending", "are_ascending", s45, a45, fd45, n45, p45⟩, ⟨"is_integer", "is_integer", s46, a46, fd46, n46, p46⟩, ⟨"is_table", "is_table", s47, a47, fd47, n47, p47⟩, ⟨"is_number", "is_number", s48, a48, fd48, n48, p48⟩, ⟨"is_datum", "is_datum", s49, a49, fd49, n49, p49⟩, ⟨"is_row", "is_row", s50, a50, fd50, n50, p50⟩, ⟨"wrong_way", "wrong_way", s51, a51, fd51, n51, p51⟩, ⟨"told_event", "told_event", s52, a52, fd52, n52, p52⟩, ⟨"datum_after", "datum_after", s53, a53, fd53, n53, p53⟩, ⟨"are_rows", "are_rows", s54, a54, fd54, n54, p54⟩, ⟨"put_value", "put_value", s55, a55, fd55, n55, p55⟩] : List Inf)[q.2.2.1]? = some I ∧ I.ps.length = q.2.2.2 ∧ Cls K (clOf ([C0] : List Addr) q.1) ∧ Meth K (clOf ([C0] : List Addr) q.1) q.2.1 I.f) (l := [(0, ("grow" : Str), 19, 2), (0, ("has_all" : Str), 20, 2), (0, ("put_answers" : Str), 38, 3)]) (.cons ⟨_, rfl, rfl, ⟨cg0, ch0, co0, cs0⟩, ⟨g19, i19, F19.kp⟩⟩ <| .cons ⟨_, rfl, rfl, ⟨cg0, ch0, co0, cs0⟩, ⟨g20, i20, F20.kp⟩⟩ <| .cons ⟨_, rfl, rfl, ⟨cg0, ch0, co0, cs0⟩, ⟨g38, i38, F38.kp⟩⟩ <| .nil) (x0, x1, x2, x3) hm
    case con =>
      intro x0 x1 hm
      exact AllM.get (P := fun q : Str × Nat => ∃ d v u, cs q.2 = some d ∧ mg q.1 = some u ∧ RelV v u ∧ ∀ φ H, Rep (cfgOf K l.prog w ([C0] : List Addr) ([⟨"law", "law", s0, a0, fd0, n0, p0⟩, ⟨"_law_well", "_law_well", s1, a1, fd1, n1, p1⟩, ⟨"_law_task", "_law_task", s2, a2, fd2, n2, p2⟩, ⟨"straight_paper", "straight_paper", s3, a3, fd3, n3, p3⟩, ⟨"_law_holds", "_law_holds", s4, a4, fd4, n4, p4⟩, ⟨"_law_spoilt", "_law_spoilt", s5, a5, fd5, n5, p5⟩, ⟨"_law_others", "_law_others", s6, a6, fd6, n6, p6⟩, ⟨"straight_holds", "straight_holds", s7, a7, fd7, n7, p7⟩, ⟨"_law_drawn", "_law_drawn", s8, a8, fd8, n8, p8⟩, ⟨"_law_one_of", "_law_one_of", s9, a9, fd9, n9, p9⟩, ⟨"_law_data", "_law_data", s10, a10, fd10, n10, p10⟩, ⟨"_law_rows", "_law_rows", s11, a11, fd11, n11, p11⟩, ⟨"_law_run", "_law_run", s12, a12, fd12, n12, p12⟩, ⟨"_law_flat", "_law_flat", s13, a13, fd13, n13, p13⟩, ⟨"need_bare", "need_bare", s14, a14, fd14, n14, p14⟩, ⟨"need_lot", "need_lot", s15, a15, fd15, n15, p15⟩, ⟨"need_few_data", "need_few_data", s16, a16, fd16, n16, p16⟩, ⟨"wanted_rows", "wanted_rows", s17, a17, fd17, n17, p17⟩, ⟨"__init__", "Silent.__init__", s18, a18, fd18, n18, p18⟩, ⟨"grow", "Silent.grow", s19, a19, fd19, n19, p19⟩, ⟨"has_all", "Silent.has_all", s20, a20, fd20, n20, p20⟩, ⟨"steps_to", "steps_to", s21, a21, fd21, n21, p21⟩, ⟨"_law_is_way", "_law_is_way", s22, a22, fd22, n22, p22⟩, ⟨"_law_is_lot", "_law_is_lot", s23, a23, fd23, n23, p23⟩, ⟨"_law_closing", "_law_closing", s24, a24, fd24, n24, p24⟩, ⟨"_law_begins", "_law_begins", s25, a25, fd25, n25, p25⟩, ⟨"is_string", "is_string", s26, a26, fd26, n26, p26⟩, ⟨"is_quiet_way", "is_quiet_way", s27, a27, fd27, n27, p27⟩, ⟨"is_silent_lot", "is_silent_lot", s28, a28, fd28, n28, p28⟩, ⟨"_law_astray", "_law_astray", s29, a29, fd29, n29, p29⟩, ⟨"_law_done", "_law_done", s30, a30, fd30, n30, p30⟩, ⟨"need_frame", "need_frame", s31, a31, fd31, n31, p31⟩, ⟨"is_sequence", "is_sequence", s32, a32, fd32, n32, p32⟩, ⟨"is_below", "is_below", s33, a33, fd33, n33, p33⟩, ⟨"need_data", "need_data", s34, a34, fd34, n34, p34⟩, ⟨"plain_rows", "plain_rows", s35, a35, fd35, n35, p35⟩, ⟨"need_program", "need_program", s36, a36, fd36, n36, p36⟩, ⟨"walked", "walked", s37, a37, fd37, n37, p37⟩, ⟨"put_answers", "Silent.put_answers", s38, a38, fd38, n38, p38⟩, ⟨"_law_number", "_law_number", s39, a39, fd39, n39, p39⟩, ⟨"_law_asked", "_law_asked", s40, a40, fd40, n40, p40⟩, ⟨"_law_answers", "_law_answers", s41, a41, fd41, n41, p41⟩, ⟨"are_steps", "are_steps", s42, a42, fd42, n42, p42⟩, ⟨"is_let", "is_let", s43, a43, fd43, n43, p43⟩, ⟨"answer_row", "answer_row", s44, a44, fd44, n44, p44⟩, ⟨"are_ascending", "are_ascending", s45, a45, fd45, n45, p45⟩, ⟨"is_integer", "is_integer", s46, a46, fd46, n46, p46⟩, ⟨"is_table", "is_table", s47, a47, fd47, n47, p47⟩, ⟨"is_number", "is_number", s48, a48, fd48, n48, p48⟩, ⟨"is_datum", "is_datum", s49, a49, fd49, n49, p49⟩, ⟨"is_row", "is_row", s50, a50, fd50, n50, p50⟩, ⟨"wrong_way", "wrong_way", s51, a51, fd51, n51, p51⟩, ⟨"told_event", "told_event", s52, a52, fd52, n52, p52⟩, ⟨"datum_after", "datum_after", s53, a53, fd53, n53, p53⟩, ⟨"are_rows", "are_rows", s54, a54, fd54, n54, p54⟩, ⟨"put_value", "put_value", s55, a55, fd55, n55, p55⟩] : List Inf)).g φ H v d) (l := [(("MANY_ATOMS" : Str), 0), (("MOST_DATA" : Str), 1), (("MOST_TABLES" : Str), 2), (("MOST_DEEP" : Str), 3), (("MOST_TIMES" : Str), 5)]) (.cons ⟨_, .int _, _, rfl, PySem.W.mg_of X G0 v0, ⟨_, rfl⟩, fun _ _ => .int _⟩ <| .cons ⟨_, .int _, _, rfl, PySem.W.mg_of X G0 v1, ⟨_, rfl⟩, fun _ _ => .int _⟩ <| .cons ⟨_, .int _, _, rfl, PySem.W.mg_of X G0 v2, ⟨_, rfl⟩, fun _ _ => .int _⟩ <| .cons ⟨_, .int _, _, rfl, PySem.W.mg_of X G0 v3, ⟨_, rfl⟩, fun _ _ => .int _⟩ <| .cons ⟨_, .int _, _, rfl, PySem.W.mg_of X G0 v5, ⟨_, rfl⟩, fun _ _ => .int _⟩ <| .nil) (x0, x1) hm
    case blt =>
      intro x0 hm
      exact AllM.get (P := fun q : Str => mg q = none) (l := [("abs" : Str), ("all" : Str), ("bool" : Str), ("enumerate" : Str), ("int" : Str), ("isinstance" : Str), ("len" : Str), ("list" : Str), ("min" : Str), ("range" : Str), ("repr" : Str), ("set" : Str), ("sorted" : Str), ("str" : Str), ("tuple" : Str), ("zip" : Str)]) (.cons (PySem.W.mg_none_of X G0 b0) <| .cons (PySem.W.mg_none_of X G0 b1) <| .cons (PySem.W.mg_none_of X G0 b2) <| .cons (PySem.W.mg_none_of X G0 b3) <| .cons (PySem.W.mg_none_of X G0 b4) <| .cons (PySem.W.mg_none_of X G0 b5) <| .cons (PySem.W.mg_none_of X G0 b6) <| .cons (PySem.W.mg_none_of X G0 b7) <| .cons (PySem.W.mg_none_of X G0 b8) <| .cons (PySem.W.mg_none_of X G0 b9) <| .cons (PySem.W.mg_none_of X G0 b10) <| .cons (PySem.W.mg_none_of X G0 b11) <| .cons (PySem.W.mg_none_of X G0 b12) <| .cons (PySem.W.mg_none_of X G0 b13) <| .cons (PySem.W.mg_none_of X G0 b14) <| .cons (PySem.W.mg_none_of X G0 b15) <| .nil) x0 hm
    case fld =>
      intro x0 hm k
      have z : ∀ C ∈ ([C0] : List Addr), ∀ f ∈ tb.fld, Cls K C ∧ NoAttr K C f := fun C hC f hf => AllM.get (P := fun C => ∀ f ∈ tb.fld, Cls K C ∧ NoAttr K C f) (l := ([C0] : List Addr)) (.cons (fun f hf => ⟨⟨cg0, ch0, co0, cs0⟩, AllM.get (P := fun f => NoAttr K C0 f) (l := [("frame" : Str), ("lot" : Str), ("rows" : Str), ("ways" : Str)]) (.cons no0_0 <| .cons no0_1 <| .cons no0_2 <| .cons no0_3 <| .nil) f hf⟩) <| .nil) C hC f hf
      exact z _ (clOf_mem k (by simp)) x0 hm
    case kws =>
      intro x0 x1 x2 hm
      exact AllM.get (P := fun q : Str × Nat × List Str => ∃ I, ([⟨"law", "law", s0, a0, fd0, n0, p0⟩, ⟨"_law_well", "_law_well", s1, a1, fd1, n1, p1⟩, ⟨"_law_task", "_law_task", s2, a2, fd2, n2, p2⟩, ⟨"straight_paper", "straight_paper", s3, a3, fd3, n3, p3⟩, ⟨"_law_holds", "_law_holds", s4, a4, fd4, n4, p4⟩, ⟨"_law_spoilt", "_law_spoilt", s5, a5, fd5, n5, p5⟩, ⟨"_law_others", "_law_others", s6, a6, fd6, n6, p6⟩, ⟨"straight_holds", "straight_holds", s7, a7, fd7, n7, p7⟩, ⟨"_law_drawn", "_law_drawn", s8, a8, fd8, n8, p8⟩, ⟨"_law_one_of", "_law_one_of", s9, a9, fd9, n9, p9⟩, ⟨"_law_data", "_law_data", s10, a10, fd10, n10, p10⟩, ⟨"_law_rows", "_law_rows", s11, a11, fd11, n11, p11⟩, ⟨"_law_run", "_law_run", s12, a12, fd12, n12, p12⟩, ⟨"_law_flat", "_law_flat", s13, a13, fd13, n13, p13⟩, ⟨"need_bare", "need_bare", s14, a14, fd14, n14, p14⟩, ⟨"need_lot", "need_lot", s15, a15, fd15, n15, p15⟩, ⟨"need_few_data", "need_few_data", s16, a16, fd16, n16, p16⟩, ⟨"wanted_rows", "wanted_rows", s17, a17, fd17, n17, p17⟩, ⟨"__init__", "Silent.__init__", s18, a18, fd18, n18, p18⟩, ⟨"grow", "Silent.grow", s19, a19, fd19, n19, p19⟩, ⟨"has_all", "Silent.has_all", s20, a20, fd20, n20, p20⟩, ⟨"steps_to", "steps_to", s21, a21, fd21, n21, p21⟩, ⟨"_law_is_way", "_law_is_way", s22, a22, fd22, n22, p22⟩, ⟨"_law_is_lot", "_law_is_lot", s23, a23, fd23, n23, p23⟩, ⟨"_law_closing", "_law_closing", s24, a24, fd24, n24, p24⟩, ⟨"_law_begins", "_law_begins", s25, a25, fd25, n25, p25⟩, ⟨"is_string", "is_string", s26, a26, fd26, n26, p26⟩, ⟨"is_quiet_way", "is_quiet_way", s27, a27, fd27, n27, p27⟩, ⟨"is_silent_lot", "is_silent_lot", s28, a28, fd28, n28, p28⟩, ⟨"_law_astray", "_law_astray", s29, a29, fd29, n29, p29⟩, ⟨"_law_done", "_law_done", s30, a30, fd30, n30, p30⟩, ⟨"need_frame", "need_frame", s31, a31, fd31, n31, p31⟩, ⟨"is_sequence", "is_sequence", s32, a32, fd32, n32, p32⟩, ⟨"is_below", "is_below", s33, a33, fd33, n33, p33⟩, ⟨"need_data", "need_data", s34, a34, fd34, n34, p34⟩, ⟨"plain_rows", "plain_rows", s35, a35, fd35, n35, p35⟩, ⟨"need_program", "need_program", s36, a36, fd36, n36, p36⟩, ⟨"walked", "walked", s37, a37, fd37, n37, p37⟩, ⟨"put_answers", "Silent.put_answers", s38, a38, fd38, n38, p38⟩, ⟨"_law_number", "_law_number", s39, a39, fd39, n39, p39⟩, ⟨"_law_asked", "_law_asked", s40, a40, fd40, n40, p40⟩, ⟨"_law_answers", "_law_answers", s41, a41, fd41, n41, p41⟩, ⟨"are_steps", "are_steps", s42, a42, fd42, n42, p42⟩, ⟨"is_let", "is_let", s43, a43, fd43, n43, p43⟩, ⟨"answer_row", "answer_row", s44, a44, fd44, n44, p44⟩, ⟨"are_ascending", "are_ascending", s45, a45, fd45, n45, p45⟩, ⟨"is_integer", "is_integer", s46, a46, fd46, n46, p46⟩, ⟨"is_table", "is_table", s47, a47, fd47, n47, p47⟩, ⟨"is_number", "is_number", s48, a48, fd48, n48, p48⟩, ⟨"is_datum", "is_datum", s49, a49, fd49, n49, p49⟩, ⟨"is_row", "is_row", s50, a50, fd50, n50, p50⟩, ⟨"wrong_way", "wrong_way", s51, a51, fd51, n51, p51⟩, ⟨"told_event", "told_event", s52, a52, fd52, n52, p52⟩, ⟨"datum_after", "datum_after", s53, a53, fd53, n53, p53⟩, ⟨"are_rows", "are_rows", s54, a54, fd54, n54, p54⟩, ⟨"put_value", "put_value", s55, a55, fd55, n55, p55⟩] : List Inf)[q.2.1]? = some I ∧ I.ps = q.2.2 ∧ mg q.1 = some (.ref I.f) ∧ ∀ (s : Shared) (us : List Value), us.length = q.2.2.length → BindsTo s I.fd ⟨[], q.2.2.zip us⟩ (q.2.2.zip us)) (l := [(("straight_holds" : Str), 7, p7)]) (.cons ⟨_, rfl, rfl, PySem.W.mg_of X G0 g7, fun s us hl => kw_binds F7 (fun _ _ _ _ _ _ us hl => match us, hl with | [_, _, _, _, _], _ => rfl) s us hl⟩ <| .nil) (x0, x1, x2) hm
    case kds =>
      intro x0 x1 hm
      exact AllM.get (P := fun q : Str × Nat => ∃ a rows, cs q.2 = some (.tup rows) ∧ mg q.1 = some (.ref a) ∧ Kd (cfgOf K l.prog w ([C0] : List Addr) ([⟨"law", "law", s0, a0, fd0, n0, p0⟩, ⟨"_law_well", "_law_well", s1, a1, fd1, n1, p1⟩, ⟨"_law_task", "_law_task", s2, a2, fd2, n2, p2⟩, ⟨"straight_paper", "straight_paper", s3, a3, fd3, n3, p3⟩, ⟨"_law_holds", "_law_holds", s4, a4, fd4, n4, p4⟩, ⟨"_law_spoilt", "_law_spoilt", s5, a5, fd5, n5, p5⟩, ⟨"_law_others", "_law_others", s6, a6, fd6, n6, p6⟩, ⟨"straight_holds", "straight_holds", s7, a7, fd7, n7, p7⟩, ⟨"_law_drawn", "_law_drawn", s8, a8, fd8, n8, p8⟩, ⟨"_law_one_of", "_law_one_of", s9, a9, fd9, n9, p9⟩, ⟨"_law_data", "_law_data", s10, a10, fd10, n10, p10⟩, ⟨"_law_rows", "_law_rows", s11, a11, fd11, n11, p11⟩, ⟨"_law_run", "_law_run", s12, a12, fd12, n12, p12⟩, ⟨"_law_flat", "_law_flat", s13, a13, fd13, n13, p13⟩, ⟨"need_bare", "need_bare", s14, a14, fd14, n14, p14⟩, ⟨"need_lot", "need_lot", s15, a15, fd15, n15, p15⟩, ⟨"need_few_data", "need_few_data", s16, a16, fd16, n16, p16⟩, ⟨"wanted_rows", "wanted_rows", s17, a17, fd17, n17, p17⟩, ⟨"__init__", "Silent.__init__", s18, a18, fd18, n18, p18⟩, ⟨"grow", "Silent.grow", s19, a19, fd19, n19, p19⟩, ⟨"has_all", "Silent.has_all", s20, a20, fd20, n20, p20⟩, ⟨"steps_to", "steps_to", s21, a21, fd21, n21, p21⟩, ⟨"_law_is_way", "_law_is_way", s22, a22, fd22, n22, p22⟩, ⟨"_law_is_lot", "_law_is_lot", s23, a23, fd23, n23, p23⟩, ⟨"_law_closing", "_law_closing", s24, a24, fd24, n24, p24⟩, ⟨"_law_begins", "_law_begins", s25, a25, fd25, n25, p25⟩, ⟨"is_string", "is_string", s26, a26, fd26, n26, p26⟩, ⟨"is_quiet_way", "is_quiet_way", s27, a27, fd27, n27, p27⟩, ⟨"is_silent_lot", "is_silent_lot", s28, a28, fd28, n28, p28⟩, ⟨"_law_astray", "_law_astray", s29, a29, fd29, n29, p29⟩, ⟨"_law_done", "_law_done", s30, a30, fd30, n30, p30⟩, ⟨"need_frame", "need_frame", s31, a31, fd31, n31, p31⟩, ⟨"is_sequence", "is_sequence", s32, a32, fd32, n32, p32⟩, ⟨"is_below", "is_below", s33, a33, fd33, n33, p33⟩, ⟨"need_data", "need_data", s34, a34, fd34, n34, p34⟩, ⟨"plain_rows", "plain_rows", s35, a35, fd35, n35, p35⟩, ⟨"need_program", "need_program", s36, a36, fd36, n36, p36⟩, ⟨"walked", "walked", s37, a37, fd37, n37, p37⟩, ⟨"put_answers", "Silent.put_answers", s38, a38, fd38, n38, p38⟩, ⟨"_law_number", "_law_number", s39, a39, fd39, n39, p39⟩, ⟨"_law_asked", "_law_asked", s40, a40, fd40, n40, p40⟩, ⟨"_law_answers", "_law_answers", s41, a41, fd41, n41, p41⟩, ⟨"are_steps", "are_steps", s42, a42, fd42, n42, p42⟩, ⟨"is_let", "is_let", s43, a43, fd43, n43, p43⟩, ⟨"answer_row", "answer_row", s44, a44, fd44, n44, p44⟩, ⟨"are_ascending", "are_ascending", s45, a45, fd45, n45, p45⟩, ⟨"is_integer", "is_integer", s46, a46, fd46, n46, p46⟩, ⟨"is_table", "is_table", s47, a47, fd47, n47, p47⟩, ⟨"is_number", "is_number", s48, a48, fd48, n48, p48⟩, ⟨"is_datum", "is_datum", s49, a49, fd49, n49, p49⟩, ⟨"is_row", "is_row", s50, a50, fd50, n50, p50⟩, ⟨"wrong_way", "wrong_way", s51, a51, fd51, n51, p51⟩, ⟨"told_event", "told_event", s52, a52, fd52, n52, p52⟩, ⟨"datum_after", "datum_after", s53, a53, fd53, n53, p53⟩, ⟨"are_rows", "are_rows", s54, a54, fd54, n54, p54⟩, ⟨"put_value", "put_value", s55, a55, fd55, n55, p55⟩] : List Inf)).g K w a rows) (l := [(("ROW_SIZES" : Str), 4)]) (.cons ⟨ka4, _, rfl, PySem.W.mg_of X G0 v4, ⟨es4, kn4, ⟨kl4, kk4, ks4⟩, kr4 _⟩⟩ <| .nil) (x0, x1) hm
  refine ⟨fd0, fun s u => law_binds F0 (fun _ _ _ _ _ _ _ => rfl) s u, fun base _ _ => law_ok (good _ rfl) (i := 0) rfl rfl (k := 60) math⟩
end K66

set_option Elab.async false
set_option autoImplicit false
set_option linter.all false
/-! P1: rows of values, closed lots, ascending lots: plain law. -/
namespace Pl
abbrev Rw := List Nat
theorem nodup_len {α : Type} [BEq α] [LawfulBEq α] : ∀ (l U : List α), l.Nodup → (∀ x ∈ l, x ∈ U) → l.length ≤ U.length
  | [], U, _, _ => Nat.zero_le _
  | a :: l, U, h, s => by
    rw [List.nodup_cons] at h
    have m : a ∈ U := s a (by simp)
    have := nodup_len l (U.erase a) h.2 fun x hx => (List.mem_erase_of_ne (fun e : x = a => h.1 (by rw [← e]; exact hx))).mpr (s x (by simp [hx]))
    rw [List.length_erase_of_mem m] at this
    have : 0 < U.length := List.length_pos_of_mem m
    simp; omega
/-- a row of n values below s -/
def RwOk (s n : Nat) (r : Rw) : Prop := r.length = n ∧ ∀ x ∈ r, x < s
def allR (s : Nat) : Nat → List Rw
  | 0 => [[]]
  | n + 1 => (List.range s).flatMap fun x => (allR s n).map fun r => x :: r
theorem length_allR (s : Nat) : ∀ n, (allR s n).length = s ^ n
  | 0 => rfl
  | n + 1 => by
    have : ∀ l : List Nat, (l.map fun _ => s ^ n).sum = l.length * s ^ n := fun l => by
      induction l with
      | nil => simp
      | cons a l ih => simp [ih, Nat.succ_mul]; omega
    simp only [allR, List.length_flatMap, List.length_map, length_allR s n]
    rw [this, List.length_range, Nat.pow_succ, Nat.mul_comm]
theorem mem_allR {s : Nat} : ∀ {n : Nat} {r : Rw}, RwOk s n r → r ∈ allR s n
  | 0, r, h => by
    have := List.length_eq_zero_iff.mp h.1
    subst this; simp [allR]
  | n + 1, r, h => by
    cases r with
    | nil => simp [RwOk] at h
    | cons x r =>
      simp only [allR, List.mem_flatMap, List.mem_range, List.mem_map]
      exact ⟨x, h.2 x (by simp), r, mem_allR ⟨by simpa using h.1, fun y hy => h.2 y (by simp [hy])⟩, rfl⟩
theorem rows_len {s n : Nat} {l : List Rw} (h : l.Nodup) (k : ∀ r ∈ l, RwOk s n r) : l.length ≤ s ^ n := by
  rw [← length_allR s n]
  exact nodup_len l _ h fun x hx => mem_allR (k x hx)

/-! ### put in if it is new -/
def addN (f : List Rw) (r : Rw) : List Rw := if r ∈ f then f else f ++ [r]
theorem foldl_addN : ∀ (c f : List Rw), ∃ e, c.foldl addN f = f ++ e ∧ e.Nodup ∧ (∀ r ∈ e, r ∉ f) ∧ (∀ r ∈ e, r ∈ c) ∧ ∀ r ∈ c, r ∈ f ++ e
  | [], f => ⟨[], by simp⟩
  | r :: c, f => by
    simp only [List.foldl_cons]
    by_cases m : r ∈ f
    · obtain ⟨e, h1, h2, h3, h4, h5⟩ := foldl_addN c f
      refine ⟨e, by simpa [addN, m] using h1, h2, h3, fun x hx => by simp [h4 x hx], fun x hx => ?_⟩
      rcases List.mem_cons.mp hx with rfl | hx
      · simp [m]
      · exact h5 x hx
    · obtain ⟨e, h1, h2, h3, h4, h5⟩ := foldl_addN c (f ++ [r])
      refine ⟨r :: e, by simpa [addN, m] using h1, ?_, fun x hx => ?_, fun x hx => ?_, fun x hx => ?_⟩
      · exact List.nodup_cons.mpr ⟨fun z => h3 r z (by simp), h2⟩
      · rcases List.mem_cons.mp hx with rfl | hx
        · exact m
        · exact fun z => h3 x hx (by simp [z])
      · rcases List.mem_cons.mp hx with rfl | hx
        · simp
        · simp [h4 x hx]
      · rcases List.mem_cons.mp hx with rfl | hx
        · simp
        · have := h5 x hx
          simpa using this
theorem foldl_addN_self : ∀ (c f : List Rw), (∀ r ∈ c, r ∈ f) → c.foldl addN f = f
  | [], f, _ => rfl
  | r :: c, f, h => by
    simp only [List.foldl_cons]
    rw [addN, if_pos (h r (by simp))]
    exact foldl_addN_self c f fun x hx => h x (by simp [hx])
/-- closed: what may be asked of two is there -/
def Closed (ok : Rw → Rw → Bool) (an : Rw → Rw → List Rw) (f : List Rw) : Prop := ∀ a ∈ f, ∀ b ∈ f, ok a b = true → ∀ r ∈ an a b, r ∈ f
def cand (ok : Rw → Rw → Bool) (an : Rw → Rw → List Rw) (f g : List Rw) : List Rw := f.flatMap fun a => g.flatMap fun b => if ok a b then an a b else []
def pass (ok : Rw → Rw → Bool) (an : Rw → Rw → List Rw) (f : List Rw) : List Rw := (cand ok an f f).foldl addN f
section
variable {ok : Rw → Rw → Bool} {an : Rw → Rw → List Rw}
theorem mem_cand {f g : List Rw} {r : Rw} : r ∈ cand ok an f g ↔ ∃ a ∈ f, ∃ b ∈ g, ok a b = true ∧ r ∈ an a b := by
  simp only [cand, List.mem_flatMap]
  constructor
  · rintro ⟨a, ha, b, hb, h⟩
    by_cases z : ok a b = true
    · rw [if_pos z] at h; exact ⟨a, ha, b, hb, z, h⟩
    · rw [if_neg z] at h; cases h
  · rintro ⟨a, ha, b, hb, z, h⟩
    exact ⟨a, ha, b, hb, by rw [if_pos z]; exact h⟩
theorem closed_iff {f : List Rw} : Closed ok an f ↔ ∀ r ∈ cand ok an f f, r ∈ f := by
  constructor
  · intro h r hr
    obtain ⟨a, ha, b, hb, z, m⟩ := mem_cand.mp hr
    exact h a ha b hb z r m
  · intro h a ha b hb z r m
    exact h r (mem_cand.mpr ⟨a, ha, b, hb, z, m⟩)
theorem pass_closed {f : List Rw} (h : Closed ok an f) : pass ok an f = f := foldl_addN_self _ _ (closed_iff.mp h)
theorem pass_same {f : List Rw} (h : (pass ok an f).length = f.length) : Closed ok an f := by
  obtain ⟨e, h1, _, _, _, h5⟩ := foldl_addN (cand ok an f f) f
  have : e = [] := by
    have : (pass ok an f).length = (f ++ e).length := by rw [pass, h1]
    rw [h] at this
    simp at this
    exact this
  subst this
  exact closed_iff.mpr (by simpa using h5)
/-- the nested loops of a pass -/
theorem pass_loops (f g : List Rw) : f.foldl (fun acc a => f.foldl (fun acc b => (if ok a b then an a b else []).foldl addN acc) acc) g = (cand ok an f f).foldl addN g := by
  simp only [cand, List.foldl_flatMap]
end

/-! ### ascending -/
def Asc (l : List Rw) : Prop := l.Pairwise (· < ·)
def srt (l : List Rw) : List Rw := l.mergeSort fun a b => !decide (b < a)
def nub : List Rw → List Rw
  | [] => []
  | k :: l => if k ∈ l then nub l else k :: nub l
theorem mem_nub (r : Rw) : ∀ l : List Rw, r ∈ nub l ↔ r ∈ l
  | [] => by simp [nub]
  | k :: l => by
    by_cases m : k ∈ l
    · rw [nub, if_pos m, mem_nub r l]
      constructor
      · intro h; simp [h]
      · intro h
        rcases List.mem_cons.mp h with rfl | h
        · exact m
        · exact h
    · rw [nub, if_neg m]; simp [mem_nub r l]
theorem nub_nodup : ∀ l : List Rw, (nub l).Nodup
  | [] => by simp [nub]
  | k :: l => by
    by_cases m : k ∈ l
    · rw [nub, if_pos m]; exact nub_nodup l
    · rw [nub, if_neg m]
      exact List.nodup_cons.mpr ⟨fun z => m ((mem_nub k l).mp z), nub_nodup l⟩
theorem nub_self : ∀ {l : List Rw}, l.Nodup → nub l = l
  | [], _ => rfl
  | k :: l, h => by
    rw [List.nodup_cons] at h
    rw [nub, if_neg h.1, nub_self h.2]
theorem nub_len (l : List Rw) : (nub l).length ≤ l.length := nodup_len _ _ (nub_nodup l) fun x hx => (mem_nub x l).mp hx
theorem lt_irr (a : Rw) : ¬ a < a := List.lt_irrefl a
theorem lt_tr {a b c : Rw} (h : a < b) (k : b < c) : a < c := List.lt_trans h k
theorem tri (a b : Rw) : a < b ∨ a = b ∨ b < a := by
  by_cases h : a < b
  · exact .inl h
  · by_cases k : b < a
    · exact .inr (.inr k)
    · exact .inr (.inl (List.le_antisymm (List.not_lt.mp k) (List.not_lt.mp h)))
theorem asc_nodup {l : List Rw} (h : Asc l) : l.Nodup := by
  unfold List.Nodup
  exact List.Pairwise.imp (fun {a b} (z : a < b) (e : a = b) => lt_irr a (by rw [← e] at z; exact z)) h
theorem mem_srt {r : Rw} {l : List Rw} : r ∈ srt l ↔ r ∈ l := by simp [srt, List.mem_mergeSort]
theorem length_srt (l : List Rw) : (srt l).length = l.length := by simp [srt]
theorem srt_le (l : List Rw) : (srt l).Pairwise fun a b => (!decide (b < a)) = true := by
  refine List.pairwise_mergeSort (le := fun a b : Rw => !decide (b < a)) ?_ ?_ l
  · intro a b c h k
    simp only [Bool.not_eq_true', decide_eq_false_iff_not] at h k ⊢
    intro z
    rcases tri b c with q | q | q
    · exact h (lt_tr q z)
    · subst q; exact h z
    · exact k q
  · intro a b
    rcases tri a b with q | q | q
    · have : ¬ b < a := fun z => lt_irr a (lt_tr q z)
      simp [this]
    · subst q; simp [lt_irr]
    · have : ¬ a < b := fun z => lt_irr a (lt_tr z q)
      simp [this]
theorem srt_asc {l : List Rw} (h : l.Nodup) : Asc (srt l) := by
  have p := srt_le l
  have n : (srt l).Nodup := ((List.mergeSort_perm l _).nodup_iff).mpr h
  refine (p.and n).imp fun {a b} z => ?_
  obtain ⟨z1, z2⟩ := z
  rcases tri a b with q | q | q
  · exact q
  · exact absurd q z2
  · simp [q] at z1
theorem srt_self {l : List Rw} (h : Asc l) : srt l = l := by
  refine List.mergeSort_of_pairwise (h.imp fun {a b} z => ?_)
  have : ¬ b < a := fun q => lt_irr a (lt_tr z q)
  simp [this]
/-- sorted(set(l)) -/
def sset (l : List Rw) : List Rw := srt (nub l)
theorem sset_asc (l : List Rw) : Asc (sset l) := srt_asc (nub_nodup l)
theorem mem_sset {r : Rw} {l : List Rw} : r ∈ sset l ↔ r ∈ l := by rw [sset, mem_srt, mem_nub]
theorem sset_self {l : List Rw} (h : Asc l) : sset l = l := by rw [sset, nub_self (asc_nodup h), srt_self h]
theorem sset_eq {l : List Rw} : sset l = l ↔ Asc l := ⟨fun h => h ▸ sset_asc l, sset_self⟩
theorem sset_len (l : List Rw) : (sset l).length ≤ l.length := by rw [sset, length_srt]; exact nub_len l
end Pl

set_option Elab.async false
set_option autoImplicit false
set_option linter.all false
set_option maxRecDepth 100000
/-! W1: what the evaluator comes to: rules. -/
namespace Rx
open PySem L2
inductive Kpt {β : Type} (K : β) : Type | mk
@[irreducible] def wp {α : Type} (r : R α) (P : α → List O → Prop) (_ : Kpt P := .mk) : Prop := match r with
  | .ok a S => P a S
  | _ => False
section
variable {α β : Type}
@[simp] theorem wp_ok (a : α) (S : List O) (P : α → List O → Prop) : wp (.ok a S) P = P a S := by with_unfolding_all exact id rfl
@[simp] theorem wp_bad (P : α → List O → Prop) : wp .bad P = False := by with_unfolding_all exact id rfl
@[simp] theorem wp_exc (c : Nat) (x : D) (S : List O) (P : α → List O → Prop) : wp (.exc c x S) P = False := by with_unfolding_all exact id rfl
@[simp ↓] theorem wp_bind (r : R α) (f : α → List O → R β) (P : β → List O → Prop) : wp (r.bind f) P = wp r fun a S => wp (f a S) P := by cases r <;> with_unfolding_all rfl
theorem wp_of {S : List O} {o : Option α} {a : α} {P : α → List O → Prop} (h : o = some a) (p : P a S) : wp (R.of S o) P := by subst h; with_unfolding_all exact p
theorem wp_mono {r : R α} {P Q : α → List O → Prop} (h : wp r P) (k : ∀ a S, P a S → Q a S) : wp r Q := by
  cases r with
  | ok a S => with_unfolding_all exact k a S h
  | exc c x S => with_unfolding_all exact h
  | bad => with_unfolding_all exact h
theorem wp_ex {r : R α} {P : α → List O → Prop} (h : wp r P) : ∃ a S, r = .ok a S ∧ P a S := by
  cases r with
  | ok a S => with_unfolding_all exact ⟨a, S, rfl, h⟩
  | exc c x S => with_unfolding_all exact False.elim h
  | bad => with_unfolding_all exact False.elim h
end
@[irreducible] def ofO {α : Type} (o : Option α) (K : α → Prop) (_ : Kpt K := .mk) : Prop := match o with
  | some a => K a
  | none => False
@[simp] theorem ofO_some {α : Type} (a : α) (K : α → Prop) : ofO (some a) K = K a := by with_unfolding_all exact id rfl
@[simp] theorem ofO_none {α : Type} (K : α → Prop) : ofO none K = False := by with_unfolding_all exact id rfl
theorem ofO_cong {α : Type} {o o' : Option α} {K : α → Prop} (h : o = o') : ofO o K = ofO o' K := by rw [h]
theorem ofO_map {α β : Type} (o : Option α) (f : α → β) (K : β → Prop) : ofO (o.map f) K = ofO o fun a => K (f a) := by cases o <;> with_unfolding_all rfl
theorem ofO_bind {α β : Type} (o : Option α) (f : α → Option β) (K : β → Prop) : ofO (o.bind f) K = ofO o fun a => ofO (f a) K := by cases o <;> with_unfolding_all rfl
@[simp] theorem wp_ofO {α : Type} (S : List O) (o : Option α) (P : α → List O → Prop) : wp (R.of S o) P = ofO o fun a => P a S := by cases o <;> with_unfolding_all rfl
@[irreducible] def getV (o : Option (Option D)) (K : D → Prop) (_ : Kpt K := .mk) : Prop := match o with
  | some (some a) => K a
  | _ => False
@[simp] theorem getV_some (a : D) (K : D → Prop) : getV (some (some a)) K = K a := by with_unfolding_all exact id rfl
theorem getV_cong {o o' : Option (Option D)} {K : D → Prop} (h : o = o') : getV o K = getV o' K := by rw [h]
@[irreducible] def ifB (t : Bool) (A B : Prop) (_ : Kpt A := .mk) (_ : Kpt B := .mk) : Prop := if t then A else B
@[simp] theorem ifB_t (A B : Prop) : ifB true A B = A := by with_unfolding_all exact id rfl
@[simp] theorem ifB_f (A B : Prop) : ifB false A B = B := by with_unfolding_all exact id rfl
theorem ifB_cong {t t' : Bool} {A B : Prop} (h : t = t') : ifB t A B = ifB t' A B := by rw [h]
theorem wp_if {α : Type} (t : Bool) (a b : R α) (P : α → List O → Prop) : wp (if t then a else b) P = ifB t (wp a P) (wp b P) := by cases t <;> with_unfolding_all rfl
def wp0 {α : Type} (r : R α) (P : α → List O → Prop) : Prop := match r with
  | .ok a S => P a S
  | _ => False
def ofO0 {α : Type} (o : Option α) (K : α → Prop) : Prop := match o with
  | some a => K a
  | none => False
def getV0 (o : Option (Option D)) (K : D → Prop) : Prop := match o with
  | some (some a) => K a
  | _ => False
def ifB0 (t : Bool) (A B : Prop) : Prop := if t then A else B
theorem wp_eq {α : Type} (r : R α) (P : α → List O → Prop) (k : Kpt P) : wp r P k = wp0 r P := by cases r <;> with_unfolding_all rfl
theorem ofO_eq {α : Type} (o : Option α) (K : α → Prop) (k : Kpt K) : ofO o K k = ofO0 o K := by cases o <;> with_unfolding_all rfl
theorem getV_eq (o : Option (Option D)) (K : D → Prop) (k : Kpt K) : getV o K k = getV0 o K := by
  cases o with
  | none => with_unfolding_all rfl
  | some o => cases o <;> with_unfolding_all rfl
theorem ifB_eq (t : Bool) (A B : Prop) (k : Kpt A) (l : Kpt B) : ifB t A B k l = ifB0 t A B := by cases t <;> with_unfolding_all rfl
theorem wp0_ok {α : Type} (a : α) (S : List O) (P : α → List O → Prop) : wp0 (.ok a S) P = P a S := id rfl
theorem wp0_bad {α : Type} (P : α → List O → Prop) : wp0 .bad P = False := id rfl
theorem wp0_bind {α β : Type} (r : R α) (f : α → List O → R β) (P : β → List O → Prop) : wp0 (r.bind f) P = wp0 r fun a S => wp0 (f a S) P := by cases r <;> rfl
theorem ofO0_map {α β : Type} (o : Option α) (f : α → β) (K : β → Prop) : ofO0 (o.map f) K = ofO0 o fun a => K (f a) := by cases o <;> rfl
theorem ofO0_bind {α β : Type} (o : Option α) (f : α → Option β) (K : β → Prop) : ofO0 (o.bind f) K = ofO0 o fun a => ofO0 (f a) K := by cases o <;> rfl
theorem wp0_ofO {α : Type} (S : List O) (o : Option α) (P : α → List O → Prop) : wp0 (R.of S o) P = ofO0 o fun a => P a S := by cases o <;> rfl
theorem ifB0_t (A B : Prop) : ifB0 true A B = A := id rfl
theorem ifB0_f (A B : Prop) : ifB0 false A B = B := id rfl
theorem wp0_if {α : Type} (t : Bool) (a b : R α) (P : α → List O → Prop) : wp0 (if t then a else b) P = ifB0 t (wp0 a P) (wp0 b P) := by cases t <;> rfl
theorem wp_fn {α : Type} {r : R α} {P Q : α → List O → Prop} (h : ∀ a S, P a S = Q a S) : wp r P = wp r Q := by
  have e : P = Q := funext fun a => funext fun S => h a S
  rw [e]
theorem ofO_fn {α : Type} {o : Option α} {P Q : α → Prop} (h : ∀ a, P a = Q a) : ofO o P = ofO o Q := by
  have e : P = Q := funext h
  rw [e]
theorem ifB_fn {t : Bool} {A A' B : Prop} (h : A = A') : ifB t A B = ifB t A' B := by rw [h]
theorem wp_cong {α : Type} {r r' : R α} {P : α → List O → Prop} (h : r = r') : wp r P = wp r' P := by rw [h]
/-- what a statement leads to -/
def cont (cf : CF) (cs : Nat → Option D) (b : List Sm) (P : Fl → List O → Prop) : Fl → List O → Prop
  | .nx σ, S => wp (evB cf cs b σ S) P
  | .ret d, S => P (.ret d) S
  | .bk σ, S => P (.bk σ) S
  | .ct σ, S => P (.ct σ) S
section
variable {cf : CF} {cs : Nat → Option D} {b : List Sm} {P : Fl → List O → Prop}
@[simp] theorem cont_nx (σ : Env) (S : List O) : cont cf cs b P (.nx σ) S = wp (evB cf cs b σ S) P := by with_unfolding_all exact id rfl
@[simp] theorem cont_ret (d : D) (S : List O) : cont cf cs b P (.ret d) S = P (.ret d) S := by with_unfolding_all exact id rfl
@[simp] theorem cont_bk (σ : Env) (S : List O) : cont cf cs b P (.bk σ) S = P (.bk σ) S := by with_unfolding_all exact id rfl
@[simp] theorem cont_ct (σ : Env) (S : List O) : cont cf cs b P (.ct σ) S = P (.ct σ) S := by with_unfolding_all exact id rfl
@[simp] theorem cont_nil : cont cf cs [] P = P := by
  funext f S
  cases f with
  | nx σ =>
    with_unfolding_all show wp (evB cf cs [] σ S) P = _
    rw [evB]; with_unfolding_all rfl
  | _ => with_unfolding_all rfl
theorem evB_one {s : Sm} {σ : Env} {S : List O} : wp (evB cf cs [s] σ S) P = wp (evS cf cs s σ S) P := by
  rw [evB, wp_bind]
  refine wp_fn fun f S' => ?_
  cases f with
  | nx σ =>
    with_unfolding_all show wp (evB cf cs [] σ S') P = _
    rw [evB]; with_unfolding_all rfl
  | _ => with_unfolding_all rfl
theorem evB_cons {s : Sm} {σ : Env} {S : List O} (h : wp (evS cf cs s σ S) (cont cf cs b P)) : wp (evB cf cs (s :: b) σ S) P := by
  rw [evB, wp_bind]
  refine wp_mono h fun f S' q => ?_
  cases f <;> with_unfolding_all exact q
@[simp] theorem evB_nil (σ : Env) (S : List O) : wp (evB cf cs [] σ S) P = P (.nx σ) S := by
  rw [evB]; with_unfolding_all rfl
end
/-! ### the rules -/
section
variable (cf : CF) (cs : Nat → Option D) (σ : Env) (S : List O)
section
variable (P : D → List O → Prop)
@[simp] theorem eE_var (i : Nat) : wp (evE cf cs (.var i) σ S) P = getV σ[i]? fun d => P d S := by
  rw [evE]
  generalize σ[i]? = o
  cases o with
  | none => with_unfolding_all rfl
  | some o => cases o <;> with_unfolding_all rfl
@[simp] theorem eE_lit (d : D) : wp (evE cf cs (.lit d) σ S) P = P d S := by rw [evE, wp_ok]
@[simp] theorem eE_con (i : Nat) : wp (evE cf cs (.con i) σ S) P = ofO (cs i) fun d => P d S := by rw [evE, wp_ofO]
@[simp] theorem eE_tup (es : List X) : wp (evE cf cs (.tup es) σ S) P = wp (evEs cf cs es σ S) fun l S => ifB (szOk l.length) (P (.tup l) S) False := by
  rw [evE, wp_bind]; refine wp_fn fun l S => ?_; rw [wp_if]; with_unfolding_all rfl
@[simp] theorem eE_bin (op : BOp) (a b : X) : wp (evE cf cs (.bin op a b) σ S) P = wp (evE cf cs a σ S) fun x S => wp (evE cf cs b σ S) fun y S => ofO (binD S op x y) fun d => P d S := by
  rw [evE]; simp only [wp_eq, ofO_eq, ifB_eq, getV_eq, wp0_bind, wp0_ofO]
@[simp] theorem eE_neg (n : Int) : wp (evE cf cs (.neg (.lit (.int n))) σ S) P = P (.int (-n)) S := by
  simp only [wp_eq, ofO_eq, ifB_eq, getV_eq, evE, wp0_bind, wp0_ok]
@[simp] theorem eE_not (a : X) : wp (evE cf cs (.not a) σ S) P = wp (evE cf cs a σ S) fun x S => ofO (truD S x) fun b => P (.bl (!b)) S := by
  rw [evE]; simp only [wp_eq, ofO_eq, ifB_eq, getV_eq, wp0_bind, wp0_ofO, ofO0_map]
@[simp] theorem eE_cmp (op : COp) (a b : X) : wp (evE cf cs (.cmp op a b) σ S) P = wp (evE cf cs a σ S) fun x S => wp (evE cf cs b σ S) fun y S => ofO (cmpD S op x y) fun d => P (.bl d) S := by
  rw [evE]; simp only [wp_eq, ofO_eq, ifB_eq, getV_eq, wp0_bind, wp0_ofO, ofO0_map]
@[simp] theorem eE_chain (o1 o2 : COp) (a b c : X) : wp (evE cf cs (.chain o1 o2 a b c) σ S) P = wp (evE cf cs a σ S) fun x S => wp (evE cf cs b σ S) fun y S => ofO (cmpD S o1 x y) fun t =>
    ifB t (wp (evE cf cs c σ S) fun z S => ofO (cmpD S o2 y z) fun d => P (.bl d) S) (P (.bl false) S) := by
  rw [evE]; simp only [wp_eq, ofO_eq, ifB_eq, getV_eq, wp0_bind, wp0_ofO, ofO0_map, wp0_if, wp0_ok]
@[simp] theorem eE_and (es : List X) : wp (evE cf cs (.and es) σ S) P = wp (evAnd cf cs es σ S) P := by rw [evE]
@[simp] theorem eE_or (es : List X) : wp (evE cf cs (.or es) σ S) P = wp (evOr cf cs es σ S) P := by rw [evE]
@[simp] theorem eAnd_one (e : X) : wp (evAnd cf cs [e] σ S) P = wp (evE cf cs e σ S) P := by
  rw [evAnd]; simp only [wp_eq, ofO_eq, ifB_eq, getV_eq, wp0_bind, List.isEmpty_nil, if_true, wp0_ok]
@[simp] theorem eAnd_cons (e f : X) (es : List X) : wp (evAnd cf cs (e :: f :: es) σ S) P = wp (evE cf cs e σ S) fun x S => ofO (truD S x) fun t => ifB t (wp (evAnd cf cs (f :: es) σ S) P) (P x S) := by
  rw [evAnd]; simp only [wp_eq, ofO_eq, ifB_eq, getV_eq, wp0_bind, List.isEmpty_cons, Bool.false_eq_true, if_false, wp0_ofO, wp0_if, wp0_ok]
@[simp] theorem eOr_one (e : X) : wp (evOr cf cs [e] σ S) P = wp (evE cf cs e σ S) P := by
  rw [evOr]; simp only [wp_eq, ofO_eq, ifB_eq, getV_eq, wp0_bind, List.isEmpty_nil, if_true, wp0_ok]
@[simp] theorem eOr_cons (e f : X) (es : List X) : wp (evOr cf cs (e :: f :: es) σ S) P = wp (evE cf cs e σ S) fun x S => ofO (truD S x) fun t => ifB t (P x S) (wp (evOr cf cs (f :: es) σ S) P) := by
  rw [evOr]; simp only [wp_eq, ofO_eq, ifB_eq, getV_eq, wp0_bind, List.isEmpty_cons, Bool.false_eq_true, if_false, wp0_ofO, wp0_if, wp0_ok]
@[simp] theorem eE_ite (c a b : X) : wp (evE cf cs (.ite c a b) σ S) P = wp (evE cf cs c σ S) fun x S => ofO (truD S x) fun t => ifB t (wp (evE cf cs a σ S) P) (wp (evE cf cs b σ S) P) := by
  rw [evE]; simp only [wp_eq, ofO_eq, ifB_eq, getV_eq, wp0_bind, wp0_ofO, wp0_if]
@[simp] theorem eE_idx (a i : X) : wp (evE cf cs (.idx a i) σ S) P = wp (evE cf cs a σ S) fun x S => wp (evE cf cs i σ S) fun y S => ofO (idxD S x y) fun d => P d S := by
  rw [evE]; simp only [wp_eq, ofO_eq, ifB_eq, getV_eq, wp0_bind, wp0_ofO]
@[simp] theorem eE_slice (a : X) (lo hi : List X) : wp (evE cf cs (.slice a lo hi) σ S) P = wp (evE cf cs a σ S) fun x S => wp (evO cf cs lo σ S) fun l S => wp (evO cf cs hi σ S) fun h S => ofO (sliD S x l h) fun d => P d S := by
  rw [evE]; simp only [wp_eq, ofO_eq, ifB_eq, getV_eq, wp0_bind, wp0_ofO]
@[simp] theorem eE_rev (a : X) : wp (evE cf cs (.rev a) σ S) P = wp (evE cf cs a σ S) fun x S => ofO (revD S x) fun d => P d S := by
  rw [evE]; simp only [wp_eq, ofO_eq, ifB_eq, getV_eq, wp0_bind, wp0_ofO]
def attrD (S : List O) (x : D) (f : Str) : Option D := match x with
  | .ref n => match S[n]? with
    | some (.ins _ fs) => fs.lookup f
    | _ => none
  | _ => none
@[simp] theorem eE_attr (a : X) (f : Str) : wp (evE cf cs (.attr a f) σ S) P = wp (evE cf cs a σ S) fun x S => ofO (attrD S x f) fun d => P d S := by
  rw [evE, wp_bind]; refine wp_fn fun x S => ?_
  unfold attrD
  cases x with
  | ref n =>
    simp only
    cases S[n]? with
    | none => with_unfolding_all rfl
    | some o => cases o <;> simp
  | _ => with_unfolding_all rfl
@[simp] theorem eE_call (f : Nat) (es : List X) : wp (evE cf cs (.call f es) σ S) P = wp (evEs cf cs es σ S) fun l S => wp (cf f l S) P := by
  rw [evE]; simp only [wp_eq, ofO_eq, ifB_eq, getV_eq, wp0_bind]
def methD (S : List O) (x : D) (c : Nat) (m : Str) : Bool := match x with
  | .ref n => match S[n]? with
    | some (.ins c' fs) => decide (c' = c ∧ fs.lookup m = none)
    | _ => false
  | _ => false
@[simp] theorem eE_meth (a : X) (c f : Nat) (m : Str) (es : List X) : wp (evE cf cs (.meth a c f m es) σ S) P = wp (evE cf cs a σ S) fun x S => ifB (methD S x c m) (wp (evEs cf cs es σ S) fun l S => wp (cf f (x :: l) S) P) False := by
  rw [evE, wp_bind]; refine wp_fn fun x S => ?_
  unfold methD
  cases x with
  | ref n =>
    simp only
    cases S[n]? with
    | none => with_unfolding_all rfl
    | some o =>
      cases o with
      | ins c' fs =>
        simp only
        by_cases h : c' = c ∧ fs.lookup m = none
        · simp only [h, and_self, if_true, wp_bind, decide_true, ifB_t]
        · simp only [h, if_false, wp_bad, decide_false, ifB_f]
      | _ => with_unfolding_all rfl
  | _ => with_unfolding_all rfl
@[simp] theorem eE_new (c f : Nat) (es : List X) : wp (evE cf cs (.new c f es) σ S) P = wp (evEs cf cs es σ S) fun l S => wp (cf f (.ref S.length :: l) (S ++ [.ins c []])) fun d S' => d = .non ∧ P (.ref S.length) S' := by
  rw [evE, wp_bind]; refine wp_fn fun l S => ?_
  rw [wp_bind]; refine wp_fn fun d S' => ?_
  cases d <;> simp
@[simp] theorem eE_bi (b : Bi) (es : List X) : wp (evE cf cs (.bi b es) σ S) P = wp (evEs cf cs es σ S) fun l S => ofO (biD S b l) fun d => P d S := by
  rw [evE]; simp only [wp_eq, ofO_eq, ifB_eq, getV_eq, wp0_bind, wp0_ofO]
def popD (S : List O) (x : D) : Option (D × List O) := match x with
  | .ref n => match S[n]? with
    | some (.lst ds) => ds.getLast?.map fun d => (d, S.set n (.lst ds.dropLast))
    | _ => none
  | _ => none
@[simp] theorem eE_pop (a : X) : wp (evE cf cs (.pop a []) σ S) P = wp (evE cf cs a σ S) fun x S => ofO (popD S x) fun q => P q.1 q.2 := by
  rw [evE, wp_bind]; refine wp_fn fun x S => ?_
  unfold popD
  cases x with
  | ref n =>
    simp only [evEs, R.bind_ok]
    cases S[n]? with
    | none => with_unfolding_all rfl
    | some o =>
      cases o with
      | lst ds =>
        simp only
        cases ds.getLast? <;> simp
      | _ => with_unfolding_all rfl
  | _ => with_unfolding_all rfl
@[simp] theorem eE_val (c : C) : wp (evE cf cs (.val c) σ S) P = wp (evC cf cs c σ S) fun l S => P (.lst l) S := by
  rw [evE]; simp only [wp_eq, ofO_eq, ifB_eq, getV_eq, wp0_bind, wp0_ok]
@[simp] theorem eE_own (c : C) : wp (evE cf cs (.own c) σ S) P = wp (evC cf cs c σ S) fun l S => P (.ref S.length) (S ++ [.lst l]) := by
  rw [evE]; simp only [wp_eq, ofO_eq, ifB_eq, getV_eq, wp0_bind, wp0_ok]
@[simp] theorem eE_tupr (es : List X) : wp (evE cf cs (.tupr es) σ S) P = wp (evEs cf cs es σ S) fun l S => ofO (rngD l) fun r => ifB (szOk r.length) (P (.tup r) S) False := by
  rw [evE, wp_bind]; refine wp_fn fun l S => ?_
  cases rngD l with
  | none => with_unfolding_all rfl
  | some r => simp only [wp_eq, ofO_eq, ifB_eq, getV_eq, wp0_if, ofO_some, wp0_ok, wp0_bad] <;> with_unfolding_all rfl
@[simp] theorem eE_dnew : wp (evE cf cs .dnew σ S) P = P (.ref S.length) (S ++ [.dict []]) := by rw [evE, wp_ok]
@[simp] theorem eE_dix (a k : X) : wp (evE cf cs (.dix a k) σ S) P = wp (evE cf cs a σ S) fun x S => wp (evE cf cs k σ S) fun y S => ofO (dgetD S x y) fun o => ofO o fun d => P d S := by
  rw [evE]; simp only [wp_eq, ofO_eq, ifB_eq, getV_eq, wp0_bind, wp0_ofO, ofO0_bind, id]
@[simp] theorem eE_din (neg : Bool) (k a : X) : wp (evE cf cs (.din neg k a) σ S) P = wp (evE cf cs k σ S) fun y S => wp (evE cf cs a σ S) fun x S => ofO (dgetD S x y) fun r => P (.bl (r.isSome ^^ neg)) S := by
  rw [evE]; simp only [wp_eq, ofO_eq, ifB_eq, getV_eq, wp0_bind, wp0_ofO, ofO0_map]
@[simp] theorem eE_kget (i : Nat) (k z : X) : wp (evE cf cs (.kget i k z) σ S) P = wp (evE cf cs k σ S) fun x S => wp (evE cf cs z σ S) fun y S => ofO (kgetD (cs i) x y) fun d => P d S := by
  rw [evE]; simp only [wp_eq, ofO_eq, ifB_eq, getV_eq, wp0_bind, wp0_ofO]
@[simp] theorem eE_dget (a k : X) : wp (evE cf cs (.dget a k []) σ S) P = wp (evE cf cs a σ S) fun x S => wp (evE cf cs k σ S) fun y S => ofO (dgetD S x y) fun r => P (r.getD .non) S := by
  rw [evE]; simp only [wp_eq, ofO_eq, ifB_eq, getV_eq, wp0_bind, wp0_ofO, ofO0_map, evEs, wp0_ok]
@[simp] theorem eE_dget1 (a k z : X) : wp (evE cf cs (.dget a k [z]) σ S) P = wp (evE cf cs a σ S) fun x S => wp (evE cf cs k σ S) fun y S => wp (evE cf cs z σ S) fun z S => ofO (dgetD S x y) fun r => P (r.getD z) S := by
  rw [evE]; simp only [wp_eq, ofO_eq, ifB_eq, getV_eq, wp0_bind, wp0_ofO, ofO0_map, evEs, wp0_ok]
def dsetdD (S : List O) (x y z : D) : Option (D × List O) := match dgetD S x y with
  | some (some d) => some (d, S)
  | some none => (dputD S x y z).map fun S' => (z, S')
  | none => none
@[simp] theorem eE_dsetd (a k v : X) : wp (evE cf cs (.dsetd a k v) σ S) P = wp (evE cf cs a σ S) fun x S => ifB (isDx S x) (wp (evE cf cs k σ S) fun y S => wp (evE cf cs v σ S) fun z S => ofO (dsetdD S x y z) fun q => P q.1 q.2) False := by
  rw [evE, wp_bind]; refine wp_fn fun x S => ?_
  cases isDx S x with
  | false => with_unfolding_all rfl
  | true =>
    simp only [Bool.true_eq_false, if_false, wp_bind, ifB_t]
    refine wp_fn fun y S => ?_; (try simp only [evEs, evIfs, wp_bind, wp_ok, wp_ofO, wp_if]); refine wp_fn fun z S => ?_
    unfold dsetdD
    cases dgetD S x y with
    | none => with_unfolding_all rfl
    | some r =>
      cases r with
      | some d => with_unfolding_all rfl
      | none =>
        simp only
        cases dputD S x y z <;> with_unfolding_all rfl
@[simp] theorem eE_dcomp (ow : List Nat) (k v : X) (tg : Pt) (it : I) : wp (evE cf cs (.dcomp ow k v tg it []) σ S) P = wp (evIt cf cs it σ S) fun src S0 => wp (compL src (fun d S => match tg.put d (wipeE σ ow) with
      | some σ' => (evE cf cs k σ' S).bind fun x S => (evE cf cs v σ' S).bind fun y S => match dputD S (.ref S0.length) x y with
          | some S' => .ok none S'
          | none => .bad
      | none => .bad) src.list (S0 ++ [.dict []])) fun _ S => P (.ref S0.length) S := by
  rw [evE]; simp only [wp_eq, ofO_eq, ifB_eq, getV_eq, wp0_bind, evIfs, R.bind_ok, if_true, wp0_ok] <;> with_unfolding_all rfl
end
section
variable (P : List D → List O → Prop)
@[simp] theorem eEs_nil : wp (evEs cf cs [] σ S) P = P [] S := by rw [evEs, wp_ok]
@[simp] theorem eEs_cons (e : X) (es : List X) : wp (evEs cf cs (e :: es) σ S) P = wp (evE cf cs e σ S) fun x S => wp (evEs cf cs es σ S) fun l S => P (x :: l) S := by
  rw [evEs]; simp only [wp_eq, ofO_eq, ifB_eq, getV_eq, wp0_bind, wp0_ok]
@[simp] theorem eC_disp (es : List X) : wp (evC cf cs (.disp es) σ S) P = wp (evEs cf cs es σ S) fun l S => ifB (szOk l.length) (P l S) False := by
  rw [evC, wp_bind]; simp only [wp_eq, ofO_eq, ifB_eq, getV_eq, wp0_if, wp0_ok, wp0_bad]
/-- a turn of a comprehension -/
def turnC (ow : List Nat) (elt : X) (tg : Pt) (ifs : List X) (d : D) (S : List O) : R (Option D) := match tg.put d (wipeE σ ow) with
  | some σ' => (evIfs cf cs ifs σ' S).bind fun t S => if t then (evE cf cs elt σ' S).bind fun x S => .ok (some x) S else .ok none S
  | none => .bad
@[simp] theorem eC_comp (ow : List Nat) (elt : X) (tg : Pt) (it : I) (ifs : List X) : wp (evC cf cs (.comp ow elt tg it ifs) σ S) P = wp (evIt cf cs it σ S) fun src S => wp (compL src (turnC cf cs σ ow elt tg ifs) src.list S) fun l S => ifB (szOk l.length) (P l S) False := by
  rw [evC]; simp only [wp_eq, ofO_eq, ifB_eq, getV_eq, wp0_bind, wp0_if, wp0_ok, wp0_bad]; with_unfolding_all rfl
def turnC2 (ow : List Nat) (elt : X) (tg : Pt) (ow2 : List Nat) (tg2 : Pt) (it2 : I) (d : D) (S : List O) : R (List D) := match tg.put d (wipeE σ ow) with
  | some σ' => (evIt cf cs it2 σ' S).bind fun src2 S => compL src2 (turnC cf cs σ' ow2 elt tg2 []) src2.list S
  | none => .bad
@[simp] theorem eC_comp2 (ow : List Nat) (elt : X) (tg : Pt) (it : I) (ow2 : List Nat) (tg2 : Pt) (it2 : I) : wp (evC cf cs (.comp2 ow elt tg it [] ow2 tg2 it2 []) σ S) P = wp (evIt cf cs it σ S) fun src S => wp (compLL src (turnC2 cf cs σ ow elt tg ow2 tg2 it2) src.list S) fun l S => ifB (szOk l.length) (P l S) False := by
  rw [evC]; simp only [wp_eq, ofO_eq, ifB_eq, getV_eq, wp0_bind, wp0_if, wp0_ok, wp0_bad, evIfs, R.bind_ok, if_true]; with_unfolding_all rfl
@[simp] theorem eC_list (a : X) : wp (evC cf cs (.list a) σ S) P = wp (evE cf cs a σ S) fun x S => ofO (seqOf S x) fun l => P l S := by
  rw [evC]; simp only [wp_eq, ofO_eq, ifB_eq, getV_eq, wp0_bind, wp0_ofO]
@[simp] theorem eC_revl (a : X) : wp (evC cf cs (.revl a) σ S) P = wp (evE cf cs a σ S) fun x S => ofO (lstOf S x) fun l => P l.reverse S := by
  rw [evC]; simp only [wp_eq, ofO_eq, ifB_eq, getV_eq, wp0_bind, wp0_ofO, ofO0_map]
def keysD (S : List O) (x : D) : Option (List D) := match x with
  | .ref n => match S[n]? with
    | some (.dict kvs) => if kvs.all fun kv => isTup kv.1 then some (kvs.map (·.1)) else none
    | _ => none
  | _ => none
@[simp] theorem eC_keys (a : X) : wp (evC cf cs (.keys a) σ S) P = wp (evE cf cs a σ S) fun x S => ofO (keysD S x) fun l => P l S := by
  rw [evC, wp_bind]; refine wp_fn fun x S => ?_
  unfold keysD
  cases x with
  | ref n =>
    simp only
    cases S[n]? with
    | none => with_unfolding_all rfl
    | some o =>
      cases o with
      | dict kvs =>
        simp only
        split <;> with_unfolding_all rfl
      | _ => with_unfolding_all rfl
  | _ => with_unfolding_all rfl
@[simp] theorem eC_sorted (a : X) : wp (evC cf cs (.sorted a false) σ S) P = wp (evE cf cs a σ S) fun x S => ofO (lstOf S x) fun l => ofO (sortD l) fun l => P l S := by
  rw [evC]; simp only [wp_eq, ofO_eq, ifB_eq, getV_eq, wp0_bind, wp0_ofO, ofO0_bind, Bool.false_eq_true, if_false]
@[simp] theorem eC_sset (a : X) : wp (evC cf cs (.sorted a true) σ S) P = wp (evE cf cs a σ S) fun x S => ofO (seqOf S x) fun l => ofO (setSortD l) fun l => P l S := by
  rw [evC]; simp only [wp_eq, ofO_eq, ifB_eq, getV_eq, wp0_bind, wp0_ofO, ofO0_bind, if_true]
end
@[simp] theorem eO_nil (P : Option Int → List O → Prop) : wp (evO cf cs [] σ S) P = P none S := by rw [evO, wp_ok]
@[simp] theorem eO_one (P : Option Int → List O → Prop) (e : X) : wp (evO cf cs [e] σ S) P = wp (evE cf cs e σ S) fun x S => ofO (optI x) fun o => P o S := by
  rw [evO]; simp only [wp_eq, ofO_eq, ifB_eq, getV_eq, wp0_bind, wp0_ofO]
section
variable (P : Src → List O → Prop)
@[simp] theorem eI_rng (es : List X) : wp (evIt cf cs (.rng es) σ S) P = wp (evEs cf cs es σ S) fun l S => ofO (rngD l) fun r => P ⟨[], r⟩ S := by
  rw [evIt]; simp only [wp_eq, ofO_eq, ifB_eq, getV_eq, wp0_bind, wp0_ofO, ofO0_map]
@[simp] theorem eI_enum (a : X) : wp (evIt cf cs (.enum a) σ S) P = wp (evE cf cs a σ S) fun x S => ofO (srcOf S x) fun s => P ⟨s.chk, enumL 0 s.list⟩ S := by
  rw [evIt]; simp only [wp_eq, ofO_eq, ifB_eq, getV_eq, wp0_bind, wp0_ofO, ofO0_map]
@[simp] theorem eI_zip (a b : X) : wp (evIt cf cs (.zip [a, b]) σ S) P = wp (evE cf cs a σ S) fun x S => wp (evE cf cs b σ S) fun y S => ofO (srcOf S x) fun s => ofO (srcOf S y) fun t => P ⟨s.chk ++ t.chk, zip2L s.list t.list⟩ S := by
  rw [evIt]; simp only [wp_bind, evEs, wp_ok]
  refine wp_fn fun x S => ?_; (try simp only [evEs, evIfs, wp_bind, wp_ok, wp_ofO, wp_if]); refine wp_fn fun y S => ?_
  (try simp only [wp_bind, wp_ok])
  cases srcOf S x <;> cases srcOf S y <;> with_unfolding_all rfl
@[simp] theorem eI_src (e : X) : wp (evIt cf cs (.src e) σ S) P = wp (evE cf cs e σ S) fun x S => ofO (srcOf S x) fun s => P s S := by
  rw [evIt]; simp only [wp_eq, ofO_eq, ifB_eq, getV_eq, wp0_bind, wp0_ofO]
end
section
variable (P : Env → List O → Prop)
@[simp] theorem eT_nm (i : Nat) (d : D) : wp (evT cf cs (.nm i) d σ S) P = P (σ.set i (some d)) S := by rw [evT, wp_ok]
@[simp] theorem eT_tup (l : List Tg) (ds : List D) : wp (evT cf cs (.tup l) (.tup ds) σ S) P = wp (evTs cf cs l ds σ S) P := by rw [evT]
@[simp] theorem eTs_nil : wp (evTs cf cs [] [] σ S) P = P σ S := by rw [evTs, wp_ok]
@[simp] theorem eTs_cons (t : Tg) (l : List Tg) (d : D) (ds : List D) : wp (evTs cf cs (t :: l) (d :: ds) σ S) P = wp (evT cf cs t d σ S) fun σ S => wp (evTs cf cs l ds σ S) P := by
  rw [evTs, wp_bind]
def attrS (S : List O) (x : D) (f : Str) (d : D) : Option (List O) := match x with
  | .ref n => match S[n]? with
    | some (.ins c fs) => if fs.length < 1000 then some (S.set n (.ins c (putD f d fs))) else none
    | _ => none
  | _ => none
@[simp] theorem eT_attr (a : X) (f : Str) (d : D) : wp (evT cf cs (.attr a f) d σ S) P = wp (evE cf cs a σ S) fun x S => ofO (attrS S x f d) fun S => P σ S := by
  rw [evT, wp_bind]; refine wp_fn fun x S => ?_
  unfold attrS
  cases x with
  | ref n =>
    simp only
    cases S[n]? with
    | none => with_unfolding_all rfl
    | some o =>
      cases o with
      | ins c fs =>
        simp only
        split <;> with_unfolding_all rfl
      | _ => with_unfolding_all rfl
  | _ => with_unfolding_all rfl
@[simp] theorem eT_sub (a i : X) (d : D) : wp (evT cf cs (.sub a i) d σ S) P = wp (evE cf cs a σ S) fun x S => wp (evE cf cs i σ S) fun y S => ofO (setD S x y d) fun S => P σ S := by
  rw [evT, wp_bind]; refine wp_fn fun x S => ?_
  rw [wp_bind]; refine wp_fn fun y S => ?_
  cases setD S x y d <;> with_unfolding_all rfl
@[simp] theorem eT_dsub (a i : X) (d : D) : wp (evT cf cs (.dsub a i) d σ S) P = wp (evE cf cs a σ S) fun x S => wp (evE cf cs i σ S) fun y S => ofO (dputD S x y d) fun S => P σ S := by
  rw [evT, wp_bind]; refine wp_fn fun x S => ?_
  rw [wp_bind]; refine wp_fn fun y S => ?_
  cases dputD S x y d <;> with_unfolding_all rfl
end
section
variable (P : Fl → List O → Prop)
@[simp] theorem eS_expr (e : X) : wp (evS cf cs (.expr e) σ S) P = wp (evE cf cs e σ S) fun _ S => P (.nx σ) S := by
  rw [evS]; simp only [wp_eq, ofO_eq, ifB_eq, getV_eq, wp0_bind, wp0_ok]
@[simp] theorem eS_asg (t : Tg) (e : X) : wp (evS cf cs (.asg t e) σ S) P = wp (evE cf cs e σ S) fun d S => wp (evT cf cs t d σ S) fun σ S => P (.nx σ) S := by
  rw [evS]; simp only [wp_eq, ofO_eq, ifB_eq, getV_eq, wp0_bind, wp0_ok]
@[simp] theorem eS_par (is : List Nat) (es : List X) : wp (evS cf cs (.par is es) σ S) P = wp (evEs cf cs es σ S) fun ds S => ofO (setsE is ds σ) fun σ => P (.nx σ) S := by
  rw [evS]; simp only [wp_eq, ofO_eq, ifB_eq, getV_eq, wp0_bind, wp0_ok, wp0_ofO]
@[simp] theorem sets_nil : setsE [] [] σ = some σ := by rw [setsE]
@[simp] theorem sets_cons (i : Nat) (is : List Nat) (d : D) (ds : List D) : setsE (i :: is) (d :: ds) σ = setsE is ds (σ.set i (some d)) := by rw [setsE]
@[simp] theorem eS_aug (i : Nat) (op : BOp) (e : X) : wp (evS cf cs (.aug i op e) σ S) P = getV σ[i]? fun x => wp (evE cf cs e σ S) fun y S => ofO (augD S op x y) fun d => P (.nx (σ.set i (some d))) S := by
  rw [evS]
  generalize σ[i]? = o
  cases o with
  | none => with_unfolding_all rfl
  | some o =>
    cases o with
    | none => with_unfolding_all rfl
    | some x => simp only [wp_eq, ofO_eq, ifB_eq, getV_eq, wp0_bind, wp0_ofO, wp0_ok, getV_some] <;> with_unfolding_all rfl
def appD (S : List O) (x d : D) : Option (List O) := match x with
  | .ref n => match S[n]? with
    | some (.lst l) => if l.length < 16777216 then some (S.set n (.lst (l ++ [d]))) else none
    | _ => none
  | _ => none
def isLD (S : List O) (x : D) : Bool := match x with
  | .ref n => isL S n
  | _ => false
@[simp] theorem eS_append (a e : X) : wp (evS cf cs (.append a e) σ S) P = wp (evE cf cs a σ S) fun x S => ifB (isLD S x) (wp (evE cf cs e σ S) fun d S => ofO (appD S x d) fun S => P (.nx σ) S) False := by
  rw [evS, wp_bind]; refine wp_fn fun x S => ?_
  cases x with
  | ref n =>
    simp only [isLD]
    cases isL S n with
    | false => with_unfolding_all rfl
    | true =>
      simp only [Bool.true_eq_false, if_false, wp_bind, ifB_t]
      refine wp_fn fun d S => ?_
      unfold appD
      simp only
      cases S[n]? with
      | none => with_unfolding_all rfl
      | some o =>
        cases o with
        | lst l =>
          simp only
          split <;> with_unfolding_all rfl
        | _ => with_unfolding_all rfl
  | _ => with_unfolding_all rfl
def extD (S : List O) (x d : D) : Option (List O) := match x with
  | .ref n => match S[n]?, lstOf S d with
    | some (.lst l), some m => if szOk (l.length + m.length) then some (S.set n (.lst (l ++ m))) else none
    | _, _ => none
  | _ => none
@[simp] theorem eS_extend (a e : X) : wp (evS cf cs (.extend a e) σ S) P = wp (evE cf cs a σ S) fun x S => ifB (isLD S x) (wp (evE cf cs e σ S) fun d S => ofO (extD S x d) fun S => P (.nx σ) S) False := by
  rw [evS, wp_bind]; refine wp_fn fun x S => ?_
  cases x with
  | ref n =>
    simp only [isLD]
    cases isL S n with
    | false => with_unfolding_all rfl
    | true =>
      simp only [Bool.true_eq_false, if_false, wp_bind, ifB_t]
      refine wp_fn fun d S => ?_
      unfold extD
      simp only
      generalize S[n]? = so
      cases so with
      | none => with_unfolding_all rfl
      | some o =>
        cases o with
        | lst l =>
          cases lstOf S d with
          | none => with_unfolding_all rfl
          | some m =>
            simp only
            split <;> with_unfolding_all rfl
        | _ => with_unfolding_all rfl
  | _ => with_unfolding_all rfl
@[simp] theorem eS_ite (c : X) (a b : List Sm) : wp (evS cf cs (.ite c a b) σ S) P = wp (evE cf cs c σ S) fun x S => ofO (truD S x) fun t => ifB t (wp (evB cf cs a σ S) P) (wp (evB cf cs b σ S) P) := by
  rw [evS]; simp only [wp_eq, ofO_eq, ifB_eq, getV_eq, wp0_bind, wp0_ofO, wp0_if]
@[simp] theorem eS_ret (e : X) : wp (evS cf cs (.ret e) σ S) P = wp (evE cf cs e σ S) fun d S => P (.ret d) S := by
  rw [evS]; simp only [wp_eq, ofO_eq, ifB_eq, getV_eq, wp0_bind, wp0_ok]
@[simp] theorem eS_retN : wp (evS cf cs .retN σ S) P = P (.ret .non) S := by rw [evS, wp_ok]
@[simp] theorem eS_pass : wp (evS cf cs .pass σ S) P = P (.nx σ) S := by rw [evS, wp_ok]
@[simp] theorem eS_brk : wp (evS cf cs .brk σ S) P = P (.bk σ) S := by rw [evS, wp_ok]
@[simp] theorem eS_cnt : wp (evS cf cs .cnt σ S) P = P (.ct σ) S := by rw [evS, wp_ok]
def whlC (c : X) (σ : Env) (S : List O) : R Bool := (evE cf cs c σ S).bind fun x S => R.of S (truD S x)
@[simp] theorem eS_whl (c : X) (b : List Sm) : wp (evS cf cs (.whl c b) σ S) P = wp (whlL (whlC cf cs c) (fun σ S => evB cf cs b σ S) WF σ S) P := by rw [evS]; with_unfolding_all rfl
@[simp] theorem whlC_wp (c : X) (P : Bool → List O → Prop) : wp (whlC cf cs c σ S) P = wp (evE cf cs c σ S) fun x S => ofO (truD S x) fun t => P t S := by
  unfold whlC; simp only [wp_eq, ofO_eq, ifB_eq, getV_eq, wp0_bind, wp0_ofO]
def forT (tg : Pt) (b : List Sm) (d : D) (σ : Env) (S : List O) : R Fl := match tg.put d σ with
  | some σ => evB cf cs b σ S
  | none => .bad
@[simp] theorem eS_for (tg : Pt) (it : I) (b : List Sm) : wp (evS cf cs (.for_ tg it b) σ S) P = wp (evIt cf cs it σ S) fun src S => wp (forL src (forT cf cs tg b) src.list σ S) P := by
  rw [evS, wp_bind]; with_unfolding_all rfl
end
theorem turnC_put {ow : List Nat} {elt : X} {tg : Pt} {ifs : List X} {d : D} {σ' : Env} {P : Option D → List O → Prop} (h : tg.put d (wipeE σ ow) = some σ') :
    wp (turnC cf cs σ ow elt tg ifs d S) P = wp (evIfs cf cs ifs σ' S) fun t S => ifB t (wp (evE cf cs elt σ' S) fun x S => P (some x) S) (P none S) := by
  unfold turnC; rw [h]; simp only [wp_eq, ofO_eq, ifB_eq, getV_eq, wp0_bind, wp0_if, wp0_ok]
theorem turnC2_put {ow : List Nat} {elt : X} {tg : Pt} {ow2 : List Nat} {tg2 : Pt} {it2 : I} {d : D} {σ' : Env} {P : List D → List O → Prop} (h : tg.put d (wipeE σ ow) = some σ') :
    wp (turnC2 cf cs σ ow elt tg ow2 tg2 it2 d S) P = wp (evIt cf cs it2 σ' S) fun src2 S => wp (compL src2 (turnC cf cs σ' ow2 elt tg2 []) src2.list S) P := by
  unfold turnC2; rw [h]; simp only [wp_bind]
@[simp] theorem eIfs_nil (P : Bool → List O → Prop) : wp (evIfs cf cs [] σ S) P = P true S := by rw [evIfs, wp_ok]
@[simp] theorem eIfs_one (P : Bool → List O → Prop) (e : X) : wp (evIfs cf cs [e] σ S) P = wp (evE cf cs e σ S) fun x S => ofO (truD S x) fun t => P t S := by
  rw [evIfs]; simp only [wp_bind, wp_ofO, wp_if, evIfs, wp_ok]
  refine wp_fn fun x S => ?_; (try simp only [evEs, evIfs, wp_bind, wp_ok, wp_ofO, wp_if]); refine ofO_fn fun t => ?_
  cases t <;> with_unfolding_all rfl
theorem forT_put {tg : Pt} {b : List Sm} {d : D} {σ' : Env} {P : Fl → List O → Prop} (h : tg.put d σ = some σ') : wp (forT cf cs tg b d σ S) P = wp (evB cf cs b σ' S) P := by
  unfold forT; rw [h]
@[simp] theorem put_nm (i : Nat) (d : D) : (Pt.nm i).put d σ = some (σ.set i (some d)) := by rw [Pt.put]
@[simp] theorem put_tup (l : List Pt) (ds : List D) : (Pt.tup l).put (.tup ds) σ = Pt.puts l ds σ := by rw [Pt.put]
@[simp] theorem pts_nil : Pt.puts [] [] σ = some σ := by rw [Pt.puts]
@[simp] theorem pts_cons (p : Pt) (l : List Pt) (d : D) (ds : List D) : Pt.puts (p :: l) (d :: ds) σ = (p.put d σ).bind fun σ => Pt.puts l ds σ := by rw [Pt.puts]
@[simp] theorem wipe_nil : wipeE σ [] = σ := by rw [wipeE]
@[simp] theorem wipe_cons (v : Nat) (vs : List Nat) : wipeE σ (v :: vs) = (wipeE σ vs).set v none := by rw [wipeE]
end
/-! ### loops -/
section
variable {src : Src}
theorem forL_wp {turn : D → Env → List O → R Fl} {P : Fl → List O → Prop} (I : List D → Env → List O → Prop)
    (still : ∀ l σ S, I l σ S → src.still S = true)
    (step : ∀ d l σ S, I (d :: l) σ S → wp (turn d σ S) fun f S' => match f with
      | .nx σ' => I l σ' S'
      | .ct σ' => I l σ' S'
      | .bk σ' => P (.nx σ') S'
      | .ret r => P (.ret r) S')
    (done : ∀ σ S, I [] σ S → P (.nx σ) S) : ∀ (l : List D) (σ : Env) (S : List O), I l σ S → wp (forL src turn l σ S) P
  | [], σ, S, h => by
    rw [forL, if_pos (still _ _ _ h)]
    with_unfolding_all exact done σ S h
  | d :: l, σ, S, h => by
    rw [forL, if_pos (still _ _ _ h), wp_bind]
    refine wp_mono (step d l σ S h) fun f S' q => ?_
    cases f with
    | nx σ' => exact forL_wp I still step done l σ' S' q
    | ct σ' => exact forL_wp I still step done l σ' S' q
    | bk σ' => with_unfolding_all exact q
    | ret r => with_unfolding_all exact q
/-- .. by what is gone through -/
theorem forL_pre {γ : Type} {enc : γ → D} {turn : D → Env → List O → R Fl} {P : Fl → List O → Prop} (xs : List γ) (I : List γ → Env → List O → Prop)
    (still : ∀ a σ S, I a σ S → src.still S = true)
    (step : ∀ a x b σ S, xs = a ++ x :: b → I a σ S → wp (turn (enc x) σ S) fun f S' => match f with
      | .nx σ' => I (a ++ [x]) σ' S'
      | .ct σ' => I (a ++ [x]) σ' S'
      | .bk σ' => P (.nx σ') S'
      | .ret r => P (.ret r) S')
    (done : ∀ σ S, I xs σ S → P (.nx σ) S) {σ : Env} {S : List O} (h : I [] σ S) : wp (forL src turn (xs.map enc) σ S) P := by
  refine forL_wp (fun l σ S => ∃ a b, xs = a ++ b ∧ l = b.map enc ∧ I a σ S) (fun l σ S ⟨a, b, _, _, h⟩ => still a σ S h) ?_ ?_ _ _ _ ⟨[], xs, rfl, rfl, h⟩
  · rintro d l σ S ⟨a, b, e1, e2, i⟩
    cases b with
    | nil => cases e2
    | cons x b =>
      rw [List.map_cons] at e2
      injection e2 with e2 e3
      subst e2
      refine wp_mono (step a x b σ S e1 i) fun f S' q => ?_
      cases f with
      | nx σ' => exact ⟨a ++ [x], b, by simp [e1], e3, q⟩
      | ct σ' => exact ⟨a ++ [x], b, by simp [e1], e3, q⟩
      | bk σ' => exact q
      | ret r => exact q
  · rintro σ S ⟨a, b, e1, e2, i⟩
    cases b with
    | cons x b => cases e2
    | nil => rw [List.append_nil] at e1; subst e1; exact done σ S i
theorem whlL_wp {c : Env → List O → R Bool} {b : Env → List O → R Fl} {P : Fl → List O → Prop} (I : Nat → Env → List O → Prop)
    (step : ∀ n σ S, I n σ S → wp (c σ S) fun t S' => if t then wp (b σ S') fun f S'' => match f with
      | .nx σ' => ∃ m, m < n ∧ I m σ' S''
      | .ct σ' => ∃ m, m < n ∧ I m σ' S''
      | .bk σ' => P (.nx σ') S''
      | .ret r => P (.ret r) S'' else P (.nx σ) S') : ∀ (F n : Nat) (σ : Env) (S : List O), n < F → I n σ S → wp (whlL c b F σ S) P
  | 0, n, σ, S, h, _ => by omega
  | F + 1, n, σ, S, h, i => by
    rw [whlL, wp_bind]
    refine wp_mono (step n σ S i) fun t S' q => ?_
    cases t with
    | false => with_unfolding_all exact q
    | true =>
      simp only [if_true, wp_bind] at q ⊢
      refine wp_mono q fun f S'' r => ?_
      cases f with
      | nx σ' =>
        obtain ⟨m, lt, r⟩ := r
        exact whlL_wp I step F m σ' S'' (by omega) r
      | ct σ' =>
        obtain ⟨m, lt, r⟩ := r
        exact whlL_wp I step F m σ' S'' (by omega) r
      | bk σ' => with_unfolding_all exact r
      | ret r' => with_unfolding_all exact r
theorem compL_wp {turn : D → List O → R (Option D)} {P : List D → List O → Prop} (I : List D → List D → List O → Prop)
    (still : ∀ acc l S, I acc l S → src.still S = true)
    (step : ∀ acc d l S, I acc (d :: l) S → wp (turn d S) fun o S' => I (acc ++ o.toList) l S')
    (done : ∀ acc S, I acc [] S → P acc S) : ∀ (l acc : List D) (S : List O), I acc l S → wp (compL src turn l S) fun r S' => P (acc ++ r) S'
  | [], acc, S, h => by
    rw [compL, if_pos (still _ _ _ h)]
    simpa using done acc S h
  | d :: l, acc, S, h => by
    rw [compL, if_pos (still _ _ _ h), wp_bind]
    refine wp_mono (step acc d l S h) fun o S' q => ?_
    simp only [wp_bind, wp_ok]
    refine wp_mono (compL_wp I still step done l _ S' q) fun r S'' z => ?_
    cases o with
    | none => simpa using z
    | some x => simpa using z
theorem compL_wp0 {turn : D → List O → R (Option D)} {P : List D → List O → Prop} (I : List D → List D → List O → Prop) {l : List D} {S : List O} (h : I [] l S)
    (still : ∀ acc l S, I acc l S → src.still S = true)
    (step : ∀ acc d l S, I acc (d :: l) S → wp (turn d S) fun o S' => I (acc ++ o.toList) l S')
    (done : ∀ acc S, I acc [] S → P acc S) : wp (compL src turn l S) P := by
  simpa using compL_wp I still step done l [] S h
@[simp] theorem compL_nilw {turn : D → List O → R (Option D)} {P : List D → List O → Prop} (S : List O) : wp (compL src turn [] S) P = ifB (src.still S) (P [] S) False := by
  rw [compL, wp_if, wp_ok, wp_bad]
@[simp] theorem compL_consw {turn : D → List O → R (Option D)} {P : List D → List O → Prop} (S : List O) (d : D) (l : List D) : wp (compL src turn (d :: l) S) P = ifB (src.still S) (wp (turn d S) fun o S => wp (compL src turn l S) fun r S => P (o.toList ++ r) S) False := by
  rw [compL, wp_if, wp_bad]
  refine ifB_fn ?_
  simp only [wp_bind, wp_ok]
  refine wp_fn fun o S => ?_; (try simp only [evEs, evIfs, wp_bind, wp_ok, wp_ofO, wp_if]); refine wp_fn fun r S => ?_
  cases o <;> with_unfolding_all rfl
theorem compL_map {γ : Type} {turn : D → List O → R (Option D)} {enc g : γ → D} {S : List O} (st : src.still S = true) : ∀ (xs : List γ), (∀ x ∈ xs, turn (enc x) S = .ok (some (g x)) S) → compL src turn (xs.map enc) S = .ok (xs.map g) S
  | [], _ => by simp [compL, st]
  | x :: xs, h => by simp [compL, st, h x (by simp), compL_map st xs fun y hy => h y (by simp [hy])]
theorem compL_filt {γ : Type} {turn : D → List O → R (Option D)} {enc : γ → D} {g : γ → Option D} {S : List O} (st : src.still S = true) : ∀ (xs : List γ), (∀ x ∈ xs, turn (enc x) S = .ok (g x) S) → compL src turn (xs.map enc) S = .ok (xs.filterMap g) S
  | [], _ => by simp [compL, st]
  | x :: xs, h => by
    simp only [List.map_cons, compL, st, if_true, h x (by simp), R.bind_ok, compL_filt st xs fun y hy => h y (by simp [hy])]
    cases e : g x <;> simp [e]
theorem compLL_map {γ : Type} {turn : D → List O → R (List D)} {enc : γ → D} {g : γ → List D} {S : List O} (st : src.still S = true) : ∀ (xs : List γ), (∀ x ∈ xs, turn (enc x) S = .ok (g x) S) → compLL src turn (xs.map enc) S = .ok (xs.flatMap g) S
  | [], _ => by simp [compLL, st]
  | x :: xs, h => by simp [compLL, st, h x (by simp), compLL_map st xs fun y hy => h y (by simp [hy])]
end
@[simp] theorem still_nil (S : List O) (l : List D) : Src.still S ⟨[], l⟩ = true := by with_unfolding_all exact id rfl
theorem still_at {S : List O} {n : Nat} {l ds : List D} (h : S[n]? = some (.lst l)) : Src.still S ⟨[(n, .lst l)], ds⟩ = true := by
  simp [Src.still, h, O.beq_self]
/-! ### calls -/
/-- the end of a def -/
def endP (t : Bool) (S : List O) (P : D → List O → Prop) : Fl → List O → Prop
  | .ret d, S' => wp (fin t S.length S d S') P
  | .nx _, S' => wp (fin t S.length S .non S') P
  | _, _ => False
@[simp] theorem endP_ret (t : Bool) (S : List O) (P : D → List O → Prop) (d : D) (S' : List O) : endP t S P (.ret d) S' = wp (fin t S.length S d S') P := by with_unfolding_all exact id rfl
@[simp] theorem endP_nx (t : Bool) (S : List O) (P : D → List O → Prop) (σ : Env) (S' : List O) : endP t S P (.nx σ) S' = wp (fin t S.length S .non S') P := by with_unfolding_all exact id rfl
theorem call_wp {cs : Nat → Option D} {T : List Fn} {k i : Nat} {f : Fn} {ds : List D} {S : List O} {P : D → List O → Prop} (hT : T[i]? = some f) (hl : ds.length = f.np)
    (h : wp (evB (evF cs T k) cs f.body (ds.map some ++ List.replicate (f.nl - f.np) none) S) (endP f.tidy S P)) : wp (evF cs T (k + 1) i ds S) P := by
  rw [evF, hT]
  simp only [hl, if_true, wp_bind]
  refine wp_mono h fun r S' q => ?_
  cases r with
  | nx σ => exact q
  | ret d => exact q
  | bk σ => with_unfolding_all exact q
  | ct σ => with_unfolding_all exact q
theorem eq_of_wp {α : Type} {r : R α} {a : α} {S : List O} (h : wp r fun b S' => b = a ∧ S' = S) : r = .ok a S := by
  obtain ⟨b, S', e, rfl, rfl⟩ := wp_ex h
  exact e
theorem call_eq {cs : Nat → Option D} {T : List Fn} {k i : Nat} {f : Fn} {ds : List D} {S : List O} {d : D} (hT : T[i]? = some f) (hl : ds.length = f.np)
    (h : wp (evB (evF cs T k) cs f.body (ds.map some ++ List.replicate (f.nl - f.np) none) S) (endP f.tidy S fun b S' => b = d ∧ S' = S)) : evF cs T (k + 1) i ds S = .ok d S :=
  eq_of_wp (call_wp hT hl h)
@[simp] theorem clean_non (m : Nat) : D.clean m .non = true := by with_unfolding_all exact id rfl
@[simp] theorem clean_bl (m : Nat) (b : Bool) : D.clean m (.bl b) = true := by with_unfolding_all exact id rfl
@[simp] theorem clean_int (m : Nat) (i : Int) : D.clean m (.int i) = true := by with_unfolding_all exact id rfl
@[simp] theorem clean_str (m : Nat) (x : Str) : D.clean m (.str x) = true := by with_unfolding_all exact id rfl
@[simp] theorem clean_tup (m : Nat) (l : List D) : D.clean m (.tup l) = cleans m l := by with_unfolding_all exact id rfl
@[simp] theorem clean_lst (m : Nat) (l : List D) : D.clean m (.lst l) = cleans m l := by with_unfolding_all exact id rfl
@[simp] theorem clean_ref (m n : Nat) : D.clean m (.ref n) = decide (n < m) := by with_unfolding_all exact id rfl
@[simp] theorem cleans_nil (m : Nat) : cleans m [] = true := by with_unfolding_all exact id rfl
@[simp] theorem cleans_cons (m : Nat) (d : D) (l : List D) : cleans m (d :: l) = (d.clean m && cleans m l) := by with_unfolding_all exact id rfl
@[simp] theorem cleans_append (m : Nat) : ∀ a b : List D, cleans m (a ++ b) = (cleans m a && cleans m b)
  | [], b => by simp
  | x :: a, b => by simp [cleans_append m a b, Bool.and_assoc]
/-- nothing was made aside -/
@[simp] theorem fin_same {t : Bool} {S : List O} {d : D} (h : d.clean S.length = true) : fin t S.length S d S = .ok d S := by
  unfold fin
  cases t with
  | false => with_unfolding_all rfl
  | true =>
    simp only [if_true, List.take_length, tidy_self]
    cases d with
    | ref m =>
      have : m < S.length := by simpa [D.clean] using h
      simp [this]
    | _ => simp_all
theorem fin_app {S X : List O} {d : D} (hd : ∀ m, d ≠ .ref m) (h : d.clean S.length = true) : fin true S.length S d (S ++ X) = .ok d S := by
  unfold fin
  simp only [if_true, List.take_left', tidy_self]
  cases d with
  | ref m => exact (hd m rfl).elim
  | _ => simp_all
theorem fin_lst {S X : List O} {m : Nat} {l : List D} (hm : S.length ≤ m) (hl : (S ++ X)[m]? = some (.lst l)) (h : cleans S.length l = true) : fin true S.length S (.ref m) (S ++ X) = .ok (.lst l) S := by
  unfold fin
  simp only [if_true, List.take_left', tidy_self]
  rw [if_neg (by omega), hl]
  simp [h]
/-- a def whose new list is told by value -/
theorem fin_new {S : List O} {l : List D} (h : cleans S.length l = true) {X : List O} : fin true S.length S (.ref S.length) (S ++ .lst l :: X) = .ok (.lst l) S :=
  fin_lst (Nat.le_refl _) (by simp) h
end Rx

set_option Elab.async false
set_option autoImplicit false
set_option linter.all false
set_option maxRecDepth 100000
/-! W2: data of the walks: rows, frames; what the evaluator's operations come to on them. -/
namespace Rx
open PySem L2 Pl
abbrev di (n : Nat) : D := .int (n : Int)
def dR (r : Rw) : D := .tup (r.map di)
theorem di_def (n : Nat) : di n = .int (n : Int) := rfl
theorem dR_def (r : Rw) : dR r = .tup (r.map di) := rfl
theorem szOk_of {n : Nat} (h : n ≤ 1000000) : szOk n = true := by simp only [szOk, decide_eq_true_eq]; omega
/-! ### data -/
theorem toPs_map {α : Type} {f : α → D} {g : α → PyData} : ∀ (l : List α), (∀ x ∈ l, (f x).toP = some (g x)) → toPs (l.map f) = some (l.map g)
  | [], _ => rfl
  | x :: l, h => by simp [toPs, h x (by simp), toPs_map l fun y hy => h y (by simp [hy])]
def pR (r : Rw) : PyData := .tuple (r.map fun (x : Nat) => PyData.int (x : Int))
@[simp] theorem toP_di (n : Nat) : (di n).toP = some (.int n) := id rfl
theorem mulOk_le {n : Nat} (j : Int) (h : n ≤ 1000000) : mulOk n j = true := by
  unfold mulOk
  rw [Bool.or_eq_true, Bool.and_eq_true, decide_eq_true_eq, decide_eq_true_eq]
  exact .inl ⟨by omega, by omega⟩
@[simp] theorem truD_bl (S : List O) (b : Bool) : truD S (.bl b) = some b := id rfl
@[simp] theorem truD_non (S : List O) : truD S .non = some false := id rfl
@[simp] theorem truD_int (S : List O) (i : Int) : truD S (.int i) = some (i != 0) := id rfl
@[simp] theorem truD_tup (S : List O) (l : List D) : truD S (.tup l) = some (!l.isEmpty) := id rfl
@[simp] theorem truD_lst (S : List O) (l : List D) : truD S (.lst l) = some (!l.isEmpty) := id rfl
@[simp] theorem cmp_eq (S : List O) (a b : D) : cmpD S .eq a b = eqD S a b := id rfl
@[simp] theorem cmp_ne (S : List O) (a b : D) : cmpD S .ne a b = (eqD S a b).map (!·) := id rfl
@[simp] theorem cmp_lt (S : List O) (a b : D) : cmpD S .lt a b = ltD S a b := id rfl
@[simp] theorem cmp_gt (S : List O) (a b : D) : cmpD S .gt a b = ltD S b a := id rfl
@[simp] theorem cmp_le (S : List O) (a b : D) : cmpD S .le a b = (ltD S b a).map (!·) := id rfl
@[simp] theorem cmp_ge (S : List O) (a b : D) : cmpD S .ge a b = (ltD S a b).map (!·) := id rfl
@[simp] theorem cmp_is (S : List O) (a b : D) : cmpD S .is a b = isD a b := id rfl
@[simp] theorem cmp_isnot (S : List O) (a b : D) : cmpD S .isnot a b = (isD a b).map (!·) := id rfl
@[simp] theorem cmp_in (S : List O) (a b : D) : cmpD S .in_ a b = hasD S a b := id rfl
@[simp] theorem cmp_notin (S : List O) (a b : D) : cmpD S .notin a b = (hasD S a b).map (!·) := id rfl
@[simp] theorem eqD_int (S : List O) (i j : Int) : eqD S (.int i) (.int j) = some (decide (i = j)) := id rfl
@[simp] theorem ltD_int (S : List O) (i j : Int) : ltD S (.int i) (.int j) = some (decide (i < j)) := id rfl
@[simp] theorem bin_add (S : List O) (i j : Int) : binD S .add (.int i) (.int j) = some (.int (i + j)) := id rfl
@[simp] theorem bin_sub (S : List O) (i j : Int) : binD S .sub (.int i) (.int j) = some (.int (i - j)) := id rfl
theorem bin_mul (S : List O) {i j : Int} (h : mulOk i j = true) : binD S .mul (.int i) (.int j) = some (.int (i * j)) := by
  unfold binD
  simp only [h, if_true]
theorem bin_tup (S : List O) {x y : List D} (h : x.length + y.length ≤ 1000000) : binD S .add (.tup x) (.tup y) = some (.tup (x ++ y)) := by
  unfold binD
  simp only [szOk_of h, if_true]
theorem bin_lst (S : List O) {x y : List D} (h : x.length + y.length ≤ 1000000) : binD S .add (.lst x) (.lst y) = some (.lst (x ++ y)) := by
  unfold binD
  simp only [lstOf, szOk_of h, if_true]
@[simp] theorem toP_dR (r : Rw) : (dR r).toP = some (pR r) := by
  simp [dR, D.toP, toPs_map (f := di) (g := fun (x : Nat) => PyData.int (x : Int)) r fun x _ => rfl, pR]
theorem canLayAll_map {α : Type} {g : α → PyData} : ∀ (l : List α), (∀ x ∈ l, (g x).canLay0 = true) → PyData.canLayAll0 (l.map g) = true
  | [], _ => rfl
  | x :: l, h => by simp [PyData.canLayAll0, h x (by simp), canLayAll_map l fun y hy => h y (by simp [hy])]
theorem depthAll_map {α : Type} {g : α → PyData} {n : Nat} : ∀ (l : List α), (∀ x ∈ l, (g x).depth ≤ n) → PyData.depthAll (l.map g) ≤ n
  | [], _ => Nat.zero_le _
  | x :: l, h => by
    simp only [List.map_cons, PyData.depthAll]
    exact Nat.max_le.mpr ⟨h x (by simp), depthAll_map l fun y hy => h y (by simp [hy])⟩
@[simp] theorem canLay_pR (r : Rw) : (pR r).canLay0 = true := by
  simp only [pR, PyData.canLay0]
  exact canLayAll_map r fun x _ => rfl
theorem depth_pR (r : Rw) : (pR r).depth ≤ 1 := by
  simp only [pR, PyData.depth]
  have := depthAll_map (g := fun (x : Nat) => PyData.int (x : Int)) (n := 0) r fun x _ => by simp [PyData.depth]
  omega
@[simp] theorem shp_pR (r : Rw) : shp (pR r) = true := by
  have := depth_pR r
  simp only [shp, SeqAt.shaped, canLay_pR, Bool.true_and, decide_eq_true_eq]; omega
theorem eqvAll_map {α : Type} [DecidableEq α] {g : α → PyData} (h : ∀ x y, PyData.eqv (g x) (g y) = decide (x = y)) : ∀ (a b : List α), PyData.eqvAll (a.map g) (b.map g) = decide (a = b)
  | [], [] => rfl
  | [], _ :: _ => rfl
  | _ :: _, [] => rfl
  | x :: a, y :: b => by
    simp only [List.map_cons, PyData.eqvAll, h x y, eqvAll_map h a b, List.cons.injEq, Bool.decide_and]
@[simp] theorem eqv_pR (a b : Rw) : PyData.eqv (pR a) (pR b) = decide (a = b) := by
  simp only [pR, PyData.eqv]
  exact eqvAll_map (g := fun (x : Nat) => PyData.int (x : Int)) (fun x y => by simp only [PyData.eqv]; rw [Bool.eq_iff_iff]; simp; omega) a b
@[simp] theorem eqD_dR (S : List O) (a b : Rw) : eqD S (dR a) (dR b) = some (decide (a = b)) := by
  unfold eqD
  simp [dR_def, datOf]
  have h := toP_dR
  simp [dR_def] at h
  simp [h]
theorem eqD_di (S : List O) (a b : Nat) : eqD S (di a) (di b) = some (decide (a = b)) := by
  simp only [di_def, eqD]
  exact congrArg some (decide_eq_decide.mpr (by omega))
theorem anyD_map {α : Type} [DecidableEq α] {S : List O} {f : α → D} (h : ∀ x y, eqD S (f x) (f y) = some (decide (x = y))) (x : α) : ∀ l : List α, anyD S (f x) (l.map f) = some (decide (x ∈ l))
  | [] => rfl
  | y :: l => by
    simp only [List.map_cons, anyD, h y x, anyD_map h x l]
    simp [eq_comm]
@[simp] theorem anyD_dR (S : List O) (x : Rw) (l : List Rw) : anyD S (dR x) (l.map dR) = some (decide (x ∈ l)) := (anyD_map (eqD_dR S) x l).trans (congrArg some (decide_eq_decide.mpr Iff.rfl))
@[simp] theorem anyD_di (S : List O) (x : Nat) (l : List Nat) : anyD S (di x) (l.map di) = some (decide (x ∈ l)) := (anyD_map (eqD_di S) x l).trans (congrArg some (decide_eq_decide.mpr Iff.rfl))
@[simp] theorem datOf_dR (S : List O) (x : Rw) : datOf S (dR x) = some (pR x) := by
  have h := toP_dR x
  simpa [dR_def, datOf] using h
@[simp] theorem hasD_dR_tup (S : List O) (x : Rw) (l : List Rw) : hasD S (dR x) (.tup (l.map dR)) = some (decide (x ∈ l)) := by simp [hasD]
@[simp] theorem hasD_dR_lst (S : List O) (x : Rw) (l : List Rw) : hasD S (dR x) (.lst (l.map dR)) = some (decide (x ∈ l)) := by simp [hasD]
theorem hasD_dR_ref {S : List O} {n : Nat} {l : List Rw} (x : Rw) (h : S[n]? = some (.lst (l.map dR))) : hasD S (dR x) (.ref n) = some (decide (x ∈ l)) := by simp [hasD, h]
@[simp] theorem shp_int (n : Int) : shp (.int n) = true := by simp [shp, SeqAt.shaped, PyData.canLay0, PyData.depth]
@[simp] theorem hasD_di_tup (S : List O) (x : Nat) (l : List Nat) : hasD S (di x) (.tup (l.map di)) = some (decide (x ∈ l)) := by
  have e : datOf S (di x) = some (.int x) := rfl
  simp [hasD, e]
@[simp] theorem hasD_di_dR (S : List O) (x : Nat) (l : List Nat) : hasD S (di x) (dR l) = some (decide (x ∈ l)) := hasD_di_tup S x l
/-! ### indices -/
@[simp] theorem atI_nat {α : Type} (l : List α) (n : Nat) : atI l (n : Int) = l[n]? := by
  unfold atI ixN
  by_cases h : n < l.length
  · have h1 : (0 : Int) ≤ n := by omega
    have h2 : (n : Int) < l.length := by omega
    simp [h1, h2]
  · have h1 : (0 : Int) ≤ n := by omega
    have h2 : ¬ (n : Int) < l.length := by omega
    simp [h1, h2, h]
@[simp] theorem atI_0 {α : Type} (l : List α) : atI l 0 = l[0]? := atI_nat l 0
@[simp] theorem atI_1 {α : Type} (l : List α) : atI l 1 = l[1]? := atI_nat l 1
@[simp] theorem atI_2 {α : Type} (l : List α) : atI l 2 = l[2]? := Rx.atI_nat l 2
@[simp] theorem atI_3 {α : Type} (l : List α) : atI l 3 = l[3]? := Rx.atI_nat l 3
@[simp] theorem atI_4 {α : Type} (l : List α) : atI l 4 = l[4]? := Rx.atI_nat l 4
@[simp] theorem atI_5 {α : Type} (l : List α) : atI l 5 = l[5]? := Rx.atI_nat l 5
@[simp] theorem atI_last {α : Type} (l : List α) : atI l (-1) = l.getLast? := by
  unfold atI ixN
  cases l with
  | nil => simp
  | cons a l =>
    have h1 : ¬ (0 : Int) ≤ -1 := by omega
    have h2 : -((a :: l).length : Int) ≤ -1 := by simp; omega
    rw [if_neg h1, if_pos h2, List.getLast?_eq_getElem?]
    have : (-1 + ((a :: l).length : Int)).toNat = (a :: l).length - 1 := by simp; omega
    simp only [Option.bind_some]
    rw [this]
@[simp] theorem idx_tup (S : List O) (l : List D) (n : Int) : idxD S (.tup l) (.int n) = atI l n := by simp [idxD, di, seqOf]
@[simp] theorem idx_lst (S : List O) (l : List D) (n : Int) : idxD S (.lst l) (.int n) = atI l n := by simp [idxD, di, seqOf]
@[simp] theorem idx_dR (S : List O) (l : Rw) (n : Nat) : idxD S (dR l) (di n) = (l[n]?).map di := by simp [dR]
theorem idx_ref {S : List O} {m : Nat} {l : List D} (h : S[m]? = some (.lst l)) (n : Int) : idxD S (.ref m) (.int n) = atI l n := by simp [idxD, di, seqOf, h]
theorem zip2L_map {α β : Type} (f : α → D) (g : β → D) : ∀ (a : List α) (b : List β), zip2L (a.map f) (b.map g) = (a.zip b).map fun p => .tup [f p.1, g p.2]
  | [], _ => by simp [zip2L]
  | _ :: _, [] => by simp [zip2L]
  | x :: a, y :: b => by simp [zip2L, zip2L_map f g a b]
theorem enumL_map {α : Type} (f : α → D) : ∀ (a : List α) (n : Nat), enumL n (a.map f) = (a.zipIdx n).map fun p => .tup [di p.2, f p.1]
  | [], _ => by simp [enumL]
  | x :: a, n => by simp [enumL, enumL_map f a (n + 1), di]
theorem rng_map (n : Nat) : rngL 0 n = (List.range n).map di := by simp [rngL, di]
theorem rngD_int {i : Int} (h0 : -1000000 ≤ i) (h : i ≤ 1000000) : rngD [.int i] = some ((List.range i.toNat).map di) := by
  rw [rngD, if_pos ⟨by omega, by omega⟩, ← rng_map]
theorem rngD_nat {n : Nat} (h : n ≤ 1000000) : rngD [di n] = some ((List.range n).map di) := by
  rw [di_def, rngD_int (by omega) (by omega)]; simp
/-! ### clean -/
@[simp] theorem clean_di (m n : Nat) : (di n).clean m = true := id rfl
theorem cleans_map {α : Type} {f : α → D} {m : Nat} : ∀ (l : List α), (∀ x ∈ l, (f x).clean m = true) → cleans m (l.map f) = true
  | [], _ => rfl
  | x :: l, h => by simp [cleans, h x (by simp), cleans_map l fun y hy => h y (by simp [hy])]
@[simp] theorem clean_dR (m : Nat) (r : Rw) : (dR r).clean m = true := by
  simp only [dR, D.clean]; exact cleans_map r fun x _ => rfl
@[simp] theorem cleans_dR (m : Nat) (l : List Rw) : cleans m (l.map dR) = true := cleans_map l fun x _ => clean_dR m x
@[simp] theorem cleans_di (m : Nat) (l : List Nat) : cleans m (l.map di) = true := cleans_map l fun x _ => rfl
/-! ### order -/
theorem lt_cast : ∀ a b : Rw, (a.map fun (x : Nat) => (x : Int)) < (b.map fun (x : Nat) => (x : Int)) ↔ a < b
  | [], [] => by simp
  | [], _ :: _ => by simp
  | _ :: _, [] => by simp
  | x :: a, y :: b => by
    simp only [List.map_cons, List.cons_lt_cons_iff, lt_cast a b]
    constructor
    · rintro (h | ⟨h, k⟩)
      · exact .inl (by omega)
      · exact .inr ⟨by omega, k⟩
    · rintro (h | ⟨h, k⟩)
      · exact .inl (by omega)
      · exact .inr ⟨by omega, k⟩
theorem lt_pR (a b : Rw) : PySem.W.dataLt (pR a) (pR b) = decide (a < b) := by
  have e : ∀ a : Rw, pR a = .tuple ((a.map fun (x : Nat) => (x : Int)).map .int) := fun a => by simp [pR, Function.comp_def]
  rw [e, e, PySem.W.dataLt_tuple]
  have h := PySem.W.dataLt_ints (a.map fun (x : Nat) => (x : Int)) (b.map fun (x : Nat) => (x : Int))
  rw [PySem.W.rowLt] at h
  rw [h]
  exact decide_eq_decide.mpr (lt_cast a b)
theorem alike_ints : ∀ a b : Rw, PySem.W.alikeAll (a.map fun (x : Nat) => PyData.int (x : Int)) (b.map fun (x : Nat) => PyData.int (x : Int)) = true
  | [], _ => by simp [PySem.W.alikeAll]
  | _ :: _, [] => by simp [PySem.W.alikeAll]
  | x :: a, y :: b => by simp [PySem.W.alikeAll, PySem.W.alike, alike_ints a b]
@[simp] theorem alike_pR (a b : Rw) : PySem.W.alike (pR a) (pR b) = true := by simp [pR, PySem.W.alike, alike_ints]
theorem ltD_dR (S : List O) (a b : Rw) : ltD S (dR a) (dR b) = some (decide (a < b)) := by
  have e1 : datOf S (dR a) = some (pR a) := datOf_dR S a
  have e2 : datOf S (dR b) = some (pR b) := datOf_dR S b
  unfold ltD
  simp only [dR_def] at e1 e2 ⊢
  simp [e1, e2, isNo, pR, lt_pR]
  have h1 := shp_pR a
  have h2 := shp_pR b
  have h3 := alike_pR a b
  have h4 := lt_pR a b
  simp only [pR] at h1 h2 h3 h4
  simp [h1, h2, h3, h4]
theorem zip_map_self {α β γ : Type} (f : α → β) (g : α → γ) : ∀ l : List α, (l.map f).zip (l.map g) = l.map fun x => (f x, g x)
  | [] => rfl
  | x :: l => by simp [zip_map_self f g l]
theorem sortD_dR {l : List Rw} (h : ∀ r ∈ l, r ≠ []) : sortD (l.map dR) = some ((srt l).map dR) := by
  unfold sortD
  rw [toPs_map (g := pR) l fun x _ => toP_dR x]
  have c1 : allAlike (l.map pR) = true := by simp [allAlike]
  have c2 : sortable (l.map pR) = true := by
    unfold sortable
    rw [Bool.or_eq_true]
    left
    simp only [List.all_map, List.all_eq_true, Function.comp]
    intro x hx
    cases x with
    | nil => exact absurd rfl (h _ hx)
    | cons a x => rfl
  have c3 : ((l.map pR).all fun p => decide (p.depth ≤ 100)) = true := by
    simp only [List.all_map, List.all_eq_true, Function.comp, decide_eq_true_eq]
    intro x _
    have := depth_pR x
    omega
  simp only [Option.bind_some, c1, c2, c3, Bool.and_self, if_true, zip_map_self]
  congr 1
  have m := List.map_mergeSort (r := fun a b : Rw => !decide (b < a)) (s := fun a b : D × PyData => !PySem.W.dataLt b.2 a.2) (f := fun x => (dR x, pR x)) (l := l) (fun a _ b _ => by simp [lt_pR])
  rw [← m, List.map_map, srt]
  rfl
theorem intsOf_di : ∀ r : Rw, intsOf (r.map di) = some (r.map fun (x : Nat) => (x : Int))
  | [] => rfl
  | x :: r => by simp [intsOf, intsOf_di r, di]
theorem tupsI_dR : ∀ l : List Rw, tupsI (l.map dR) = some (l.map fun r => r.map fun (x : Nat) => (x : Int))
  | [] => rfl
  | r :: l => by
    have h := tupsI_dR l
    have e : dR r = .tup (r.map di) := rfl
    rw [List.map_cons, e, tupsI, intsOf_di, h]
    rfl
theorem cast_inj : ∀ {a b : Rw}, (a.map fun (x : Nat) => (x : Int)) = (b.map fun (x : Nat) => (x : Int)) → a = b := by
  intro a b h
  exact (List.map_inj_right (f := fun (x : Nat) => (x : Int)) (fun x y (z : (x : Int) = (y : Int)) => by omega)).mp h
theorem nubL_cast : ∀ l : List Rw, nubL (l.map fun r => r.map fun (x : Nat) => (x : Int)) = (nub l).map fun r => r.map fun (x : Nat) => (x : Int)
  | [] => rfl
  | k :: l => by
    have c : (l.map fun r => r.map fun (x : Nat) => (x : Int)).contains (k.map fun (x : Nat) => (x : Int)) = decide (k ∈ l) := by
      rw [List.contains_eq_mem]
      refine decide_eq_decide.mpr ?_
      simp only [List.mem_map]
      constructor
      · rintro ⟨x, hx, e⟩
        rw [← cast_inj e]; exact hx
      · intro h; exact ⟨k, h, rfl⟩
    simp only [List.map_cons, nubL, c, nub, decide_eq_true_eq, nubL_cast l]
    by_cases m : k ∈ l
    · simp [m]
    · simp [m]

theorem code_lt : ∀ {a b : Rw} (p : Int), a.length = b.length → (∀ x ∈ a, x < 64) → (∀ x ∈ b, x < 64) →
    ((a.map fun (x : Nat) => (x : Int)).foldl (fun q i => q * 64 + i) p ≤ (b.map fun (x : Nat) => (x : Int)).foldl (fun q i => q * 64 + i) p ↔ ¬ b < a)
  | [], [], p, _, _, _ => by simp
  | [], _ :: _, p, h, _, _ => by simp at h
  | _ :: _, [], p, h, _, _ => by simp at h
  | x :: a, y :: b, p, h, ha, hb => by
    have hx := ha x (by simp)
    have hy := hb y (by simp)
    have hl : a.length = b.length := by simpa using h
    have key : ∀ (a : Rw) (p : Int), (∀ z ∈ a, z < 64) → p * 64 ^ a.length ≤ (a.map fun (x : Nat) => (x : Int)).foldl (fun q i => q * 64 + i) p ∧ (a.map fun (x : Nat) => (x : Int)).foldl (fun q i => q * 64 + i) p < (p + 1) * 64 ^ a.length := by
      intro a
      induction a with
      | nil => intro p _; simp; omega
      | cons z a ih =>
        intro p hz
        have h1 := ih (p * 64 + z) fun w hw => hz w (by simp [hw])
        have h2 := hz z (by simp)
        simp only [List.map_cons, List.foldl_cons, List.length_cons, Int.pow_succ]
        have hp : (0 : Int) < 64 ^ a.length := Int.pow_pos (by omega)
        generalize (64 : Int) ^ a.length = w at *
        generalize List.foldl (fun q i => q * 64 + i) (p * 64 + ↑z) (List.map (fun (x : Nat) => (x : Int)) a) = v at *
        have e1 : p * (w * 64) = p * 64 * w := by rw [Int.mul_assoc, Int.mul_comm w 64]
        have e2 : (p + 1) * (w * 64) = (p * 64 + 64) * w := by rw [Int.mul_comm w 64, ← Int.mul_assoc, Int.add_mul]; simp
        have m1 : p * 64 * w ≤ (p * 64 + z) * w := Int.mul_le_mul_of_nonneg_right (by omega) (by omega)
        have m2 : (p * 64 + z + 1) * w ≤ (p * 64 + 64) * w := Int.mul_le_mul_of_nonneg_right (by omega) (by omega)
        omega
    have ka := key a (p * 64 + x) fun z hz => ha z (by simp [hz])
    have kb := key b (p * 64 + y) fun z hz => hb z (by simp [hz])
    have hp : (0 : Int) < 64 ^ a.length := Int.pow_pos (by omega)
    rw [← hl] at kb
    simp only [List.map_cons, List.foldl_cons, List.cons_lt_cons_iff]
    rcases Nat.lt_trichotomy x y with q | q | q
    · have m1 : (p * 64 + x + 1) * 64 ^ a.length ≤ (p * 64 + y) * 64 ^ a.length := Int.mul_le_mul_of_nonneg_right (by omega) (by omega)
      constructor
      · intro _ z
        rcases z with z | z <;> omega
      · intro _; omega
    · subst q
      rw [code_lt (p * 64 + x) hl (fun z hz => ha z (by simp [hz])) fun z hz => hb z (by simp [hz])]
      simp
    · have m1 : (p * 64 + y + 1) * 64 ^ a.length ≤ (p * 64 + x) * 64 ^ a.length := Int.mul_le_mul_of_nonneg_right (by omega) (by omega)
      constructor
      · intro z; omega
      · intro z
        exact absurd (Or.inl q) z
theorem setSortD_dR {l : List Rw} {s n : Nat} (hn : 0 < n) (hs : s ≤ 64) (hl : l.length < 64) (h : ∀ r ∈ l, RwOk s n r) : setSortD (l.map dR) = some ((sset l).map dR) := by
  unfold setSortD
  rw [tupsI_dR]
  have c : ((l.map fun r => r.map fun (x : Nat) => (x : Int)).all fun k => decide (1 ≤ k.length) && decide (k.length = ((l.map fun r => r.map fun (x : Nat) => (x : Int)).headD []).length) && k.all fun i => decide (0 ≤ i) && decide (i < 64)) = true := by
    rw [List.all_eq_true]
    intro k hk
    obtain ⟨r, hr, rfl⟩ := List.mem_map.mp hk
    have o := h r hr
    have hd : ((l.map fun r => r.map fun (x : Nat) => (x : Int)).headD []).length = n := by
      cases l with
      | nil => cases hr
      | cons q l => simpa using (h q (by simp)).1
    rw [hd]
    simp only [List.length_map, o.1, Bool.and_eq_true, decide_eq_true_eq, List.all_eq_true, List.mem_map]
    refine ⟨⟨by omega, trivial⟩, ?_⟩
    rintro i ⟨x, hx, rfl⟩
    have := o.2 x hx
    omega
  simp only [Option.bind_some, List.length_map, c, decide_eq_true hl, Bool.and_self, if_true, nubL_cast]
  congr 1
  have m := List.map_mergeSort (r := fun a b : Rw => !decide (b < a)) (s := fun a b : List Int => decide (code64 a ≤ code64 b)) (f := fun r => r.map fun (x : Nat) => (x : Int)) (l := nub l) (fun a ha b hb => by
    have oa := h a ((mem_nub a l).mp ha)
    have ob := h b ((mem_nub b l).mp hb)
    have := code_lt 0 (oa.1.trans ob.1.symm) (fun x hx => Nat.lt_of_lt_of_le (oa.2 x hx) hs) (fun x hx => Nat.lt_of_lt_of_le (ob.2 x hx) hs)
    rw [Bool.eq_iff_iff]
    simp only [Bool.not_eq_true', decide_eq_false_iff_not, decide_eq_true_eq]
    exact this.symm)
  rw [← m, List.map_map, sset, srt]
  refine List.map_congr_left fun r _ => ?_
  simp [dR, di_def]
/-! ### frames -/
structure Fr where
  size : Nat
  regs : Nat
  cells : Nat
  tabs : List Rw
  deep : Nat
def dF (f : Fr) : D := .tup [di f.size, di f.regs, di f.cells, .tup (f.tabs.map dR), di f.deep]
structure Fr.Ok (f : Fr) : Prop where
  s2 : 2 ≤ f.size
  s3 : f.size ≤ 3
  r1 : 1 ≤ f.regs
  r4 : f.regs ≤ 4
  c : f.cells = 0 ∨ f.cells = f.size
  t4 : f.tabs.length ≤ 4
  t : ∀ t ∈ f.tabs, RwOk f.size (f.size * f.size) t
  d : f.deep ≤ 3
@[simp] theorem F0 (S : List O) (f : Fr) : idxD S (dF f) (.int 0) = some (di f.size) := id rfl
@[simp] theorem F1 (S : List O) (f : Fr) : idxD S (dF f) (.int 1) = some (di f.regs) := id rfl
@[simp] theorem F2 (S : List O) (f : Fr) : idxD S (dF f) (.int 2) = some (di f.cells) := id rfl
@[simp] theorem F3 (S : List O) (f : Fr) : idxD S (dF f) (.int 3) = some (.tup (f.tabs.map dR)) := id rfl
@[simp] theorem F4 (S : List O) (f : Fr) : idxD S (dF f) (.int 4) = some (di f.deep) := id rfl
@[simp] theorem clean_dF (m : Nat) (f : Fr) : (dF f).clean m = true := by simp [dF, D.clean, cleans]
end Rx

set_option Elab.async false
set_option autoImplicit false
set_option linter.all false
set_option maxRecDepth 100000
/-! W3: any values; rows of programs. -/
namespace Rx
open PySem L2 Pl
theorem fuel {k n : Nat} (h : n + 1 ≤ k) : ∃ j, k = j + 1 ∧ n ≤ j := ⟨k - 1, by omega, by omega⟩
/-! ### kinds of values -/
def isI : D → Bool
  | .int _ => true
  | _ => false
def isS : D → Bool
  | .str _ => true
  | _ => false
def isT : D → Bool
  | .tup _ => true
  | _ => false
def below (n : Int) : D → Bool
  | .int i => decide (0 ≤ i) && decide (i < n)
  | _ => false
theorem below_di (n m : Nat) : below n (di m) = decide (m < n) := by
  simp only [below, di_def]
  rw [Bool.eq_iff_iff]; simp
theorem below_iff {n : Nat} {d : D} : below n d = true ↔ ∃ m, m < n ∧ d = di m := by
  constructor
  · intro h
    cases d <;> simp only [below, Bool.and_eq_true, decide_eq_true_eq, Bool.false_eq_true] at h
    rename_i i
    exact ⟨i.toNat, by omega, by rw [di_def]; congr 1; omega⟩
  · rintro ⟨m, h, rfl⟩
    rw [below_di]; simpa using h
mutual
def D.ok (m : Nat) : D → Bool
  | .non => true
  | .bl _ => true
  | .int _ => true
  | .str s => PyData.strOk s
  | .tup l => decide (l.length ≤ m) && oks m l
  | .lst l => decide (l.length ≤ m) && oks m l
  | .ref _ => false
  | .fn _ => false
  | .scr _ => false
def oks (m : Nat) : List D → Bool
  | [] => true
  | d :: l => d.ok m && oks m l
end
mutual
def D.dep : D → Nat
  | .tup l => deps l + 1
  | .lst l => deps l + 1
  | .non => 0
  | .bl _ => 0
  | .int _ => 0
  | .str _ => 0
  | .ref _ => 0
  | .fn _ => 0
  | .scr _ => 0
def deps : List D → Nat
  | [] => 0
  | d :: l => max d.dep (deps l)
end
theorem oks_iff {m : Nat} : ∀ {l : List D}, oks m l = true ↔ ∀ d ∈ l, d.ok m = true
  | [] => by simp [oks]
  | d :: l => by simp [oks, oks_iff (l := l)]
theorem deps_le {n : Nat} : ∀ {l : List D}, deps l ≤ n ↔ ∀ d ∈ l, d.dep ≤ n
  | [] => by simp [deps]
  | d :: l => by simp [deps, deps_le (l := l), Nat.max_le]
@[simp] theorem ok_non (m : Nat) : D.ok m .non = true := id rfl
@[simp] theorem ok_bl (m : Nat) (b : Bool) : D.ok m (.bl b) = true := id rfl
@[simp] theorem ok_int (m : Nat) (b : Int) : D.ok m (.int b) = true := id rfl
@[simp] theorem ok_di (m : Nat) (b : Nat) : D.ok m (di b) = true := id rfl
@[simp] theorem ok_str (m : Nat) (b : Str) : D.ok m (.str b) = PyData.strOk b := id rfl
theorem ok_tup {m : Nat} {l : List D} : D.ok m (.tup l) = true ↔ l.length ≤ m ∧ ∀ d ∈ l, d.ok m = true := by simp [D.ok, oks_iff]
theorem ok_lst {m : Nat} {l : List D} : D.ok m (.lst l) = true ↔ l.length ≤ m ∧ ∀ d ∈ l, d.ok m = true := by simp [D.ok, oks_iff]
theorem dep_tup {n : Nat} {l : List D} : D.dep (.tup l) ≤ n + 1 ↔ ∀ d ∈ l, d.dep ≤ n := by
  simp only [D.dep, Nat.add_le_add_iff_right]; exact deps_le
theorem dep_lst {n : Nat} {l : List D} : D.dep (.lst l) ≤ n + 1 ↔ ∀ d ∈ l, d.dep ≤ n := by
  simp only [D.dep, Nat.add_le_add_iff_right]; exact deps_le
@[simp] theorem dep_non : D.dep .non = 0 := id rfl
@[simp] theorem dep_bl (b : Bool) : D.dep (.bl b) = 0 := id rfl
@[simp] theorem dep_int (b : Int) : D.dep (.int b) = 0 := id rfl
@[simp] theorem dep_di (b : Nat) : D.dep (di b) = 0 := id rfl
@[simp] theorem dep_str (b : Str) : D.dep (.str b) = 0 := id rfl
theorem ok_ty {m : Nat} {d : D} (S : List O) (h : d.ok m = true) : (tyD S d).isSome = true := by
  cases d <;> simp_all [D.ok, tyD]
mutual
theorem ok_toP {m : Nat} : ∀ d : D, d.ok m = true → ∃ p, d.toP = some p ∧ p.canLay0 = true ∧ p.depth ≤ d.dep
  | .non, _ => ⟨_, rfl, rfl, Nat.zero_le _⟩
  | .bl b, _ => ⟨_, rfl, rfl, Nat.zero_le _⟩
  | .int b, _ => ⟨_, rfl, rfl, Nat.zero_le _⟩
  | .str s, h => ⟨.str s, rfl, h, Nat.zero_le _⟩
  | .tup l, h => by
    simp [D.ok] at h
    obtain ⟨ps, e, c, d⟩ := oks_toP l h.2
    exact ⟨.tuple ps, by simp [D.toP, e], by simpa [PyData.canLay0] using c, by simpa [PyData.depth, D.dep] using d⟩
  | .lst l, h => by
    simp [D.ok] at h
    obtain ⟨ps, e, c, d⟩ := oks_toP l h.2
    exact ⟨.list ps, by simp [D.toP, e], by simpa [PyData.canLay0] using c, by simpa [PyData.depth, D.dep] using d⟩
  | .ref _, h => by simp [D.ok] at h
  | .fn _, h => by simp [D.ok] at h
  | .scr _, h => by simp [D.ok] at h
theorem oks_toP {m : Nat} : ∀ l : List D, oks m l = true → ∃ ps, toPs l = some ps ∧ PyData.canLayAll0 ps = true ∧ PyData.depthAll ps ≤ deps l
  | [], _ => ⟨[], rfl, rfl, Nat.le_refl _⟩
  | d :: l, h => by
    simp [oks] at h
    obtain ⟨p, e, c, q⟩ := ok_toP d h.1
    obtain ⟨ps, e2, c2, q2⟩ := oks_toP l h.2
    refine ⟨p :: ps, by simp [toPs, e, e2], by simp [PyData.canLayAll0, c, c2], ?_⟩
    simp only [PyData.depthAll, deps]
    exact Nat.max_le.mpr ⟨Nat.le_trans q (Nat.le_max_left _ _), Nat.le_trans q2 (Nat.le_max_right _ _)⟩
end
theorem ok_shp {m : Nat} {d : D} (h : d.ok m = true) (k : d.dep ≤ 60) : ∃ p, d.toP = some p ∧ shp p = true := by
  obtain ⟨p, e, c, q⟩ := ok_toP d h
  refine ⟨p, e, ?_⟩
  simp only [shp, SeqAt.shaped, c, Bool.true_and, decide_eq_true_eq]; omega
mutual
theorem ok_clean {m : Nat} (n : Nat) : ∀ d : D, d.ok m = true → d.clean n = true
  | .non, _ => rfl
  | .bl b, _ => rfl
  | .int b, _ => rfl
  | .str s, h => rfl
  | .tup l, h => by
    simp [D.ok] at h
    simpa using oks_clean n l h.2
  | .lst l, h => by
    simp [D.ok] at h
    simpa using oks_clean n l h.2
  | .ref _, h => by simp [D.ok] at h
  | .fn _, h => by simp [D.ok] at h
  | .scr _, h => by simp [D.ok] at h
theorem oks_clean {m : Nat} (n : Nat) : ∀ l : List D, oks m l = true → cleans n l = true
  | [], _ => rfl
  | d :: l, h => by
    simp [oks] at h
    simp [ok_clean n d h.1, oks_clean n l h.2]
end
theorem ok_dR {m : Nat} {r : Rw} (h : r.length ≤ m) : (dR r).ok m = true := by
  rw [dR_def, ok_tup]
  refine ⟨by simpa using h, fun d hd => ?_⟩
  obtain ⟨x, _, rfl⟩ := List.mem_map.mp hd
  rfl
theorem dep_dR (r : Rw) : (dR r).dep ≤ 1 := by
  rw [dR_def, dep_tup (n := 0)]
  intro d hd
  obtain ⟨x, _, rfl⟩ := List.mem_map.mp hd
  simp
/-! ### rows of programs -/
inductive Row where
  | op (t a b c : Nat)
  | load (a b : Nat)
  | store (a b : Nat)
  | fence
  | fork (r : Nat) (l m : List Row)
  | loop (n : Nat) (l : List Row)
mutual
def dRow : Row → D
  | .op t a b c => .tup [.str "op", di t, di a, di b, di c]
  | .load a b => .tup [.str "load", di a, di b]
  | .store a b => .tup [.str "store", di a, di b]
  | .fence => .tup [.str "fence"]
  | .fork r l m => .tup [.str "fork", di r, .tup (dRows l), .tup (dRows m)]
  | .loop n l => .tup [.str "loop", di n, .tup (dRows l)]
def dRows : List Row → List D
  | [] => []
  | r :: l => dRow r :: dRows l
end
theorem dRows_map : ∀ l, dRows l = l.map dRow
  | [] => rfl
  | r :: l => by simp [dRows, dRows_map l]
mutual
theorem clean_dRow (n : Nat) : ∀ r, (dRow r).clean n = true
  | .op t a b c => rfl
  | .load a b => rfl
  | .store a b => rfl
  | .fence => rfl
  | .fork r l m => by simp [dRow, clean_dRows n l, clean_dRows n m]
  | .loop k l => by simp [dRow, clean_dRows n l]
theorem clean_dRows (n : Nat) : ∀ l, cleans n (dRows l) = true
  | [] => rfl
  | r :: l => by simp [dRows, clean_dRow n r, clean_dRows n l]
end
@[simp] theorem clean_dRow' (n : Nat) (r : Row) : (dRow r).clean n = true := clean_dRow n r
@[simp] theorem clean_dRows' (n : Nat) (l : List Row) : cleans n (l.map dRow) = true := by rw [← dRows_map]; exact clean_dRows n l
mutual
/-- how deep -/
def Row.dep : Row → Nat
  | .op _ _ _ _ => 0
  | .load _ _ => 0
  | .store _ _ => 0
  | .fence => 0
  | .fork _ l m => max (rdep l) (rdep m) + 1
  | .loop _ l => rdep l + 1
def rdep : List Row → Nat
  | [] => 0
  | r :: l => max r.dep (rdep l)
end
mutual
/-- no list of rows within is long -/
def Row.wid : Row → Prop
  | .op _ _ _ _ => True
  | .load _ _ => True
  | .store _ _ => True
  | .fence => True
  | .fork _ l m => (l.length ≤ 1000 ∧ m.length ≤ 1000) ∧ wids l ∧ wids m
  | .loop _ l => l.length ≤ 1000 ∧ wids l
def wids : List Row → Prop
  | [] => True
  | r :: l => r.wid ∧ wids l
end
theorem wids_iff : ∀ {l : List Row}, wids l ↔ ∀ r ∈ l, r.wid
  | [] => by simp [wids]
  | r :: l => by simp [wids, wids_iff (l := l)]
theorem rdep_le {n : Nat} : ∀ {l : List Row}, rdep l ≤ n ↔ ∀ r ∈ l, r.dep ≤ n
  | [] => by simp [rdep]
  | r :: l => by simp [rdep, rdep_le (l := l), Nat.max_le]
mutual
/-- loops unrolled -/
def flat1 : Row → List Row
  | .op t a b c => [.op t a b c]
  | .load a b => [.load a b]
  | .store a b => [.store a b]
  | .fence => [.fence]
  | .fork r l m => [.fork r (flat l) (flat m)]
  | .loop n l => (List.replicate n (flat l)).flatten
def flat : List Row → List Row
  | [] => []
  | r :: l => flat1 r ++ flat l
end
theorem flat_append : ∀ a b : List Row, flat (a ++ b) = flat a ++ flat b
  | [], b => rfl
  | r :: a, b => by simp [flat, flat_append a b]
mutual
/-- how many rows, loops unrolled, both sides -/
def Row.sz : Row → Nat
  | .op _ _ _ _ => 1
  | .load _ _ => 1
  | .store _ _ => 1
  | .fence => 1
  | .fork _ l m => rsz l + rsz m + 1
  | .loop n l => (n + 1) * rsz l + 1
def rsz : List Row → Nat
  | [] => 0
  | r :: l => r.sz + rsz l
end
theorem rsz_append : ∀ a b : List Row, rsz (a ++ b) = rsz a + rsz b
  | [], b => by simp [rsz]
  | r :: a, b => by simp [rsz, rsz_append a b]; omega
theorem rsz_rep (l : List Row) : ∀ n, rsz (List.replicate n l).flatten = n * rsz l
  | 0 => by simp [rsz]
  | n + 1 => by simp [List.replicate_succ, rsz_append, rsz_rep l n, Nat.succ_mul]; omega
mutual
theorem flat1_sz : ∀ r : Row, rsz (flat1 r) ≤ r.sz
  | .op _ _ _ _ => by simp [flat1, rsz, Row.sz]
  | .load _ _ => by simp [flat1, rsz, Row.sz]
  | .store _ _ => by simp [flat1, rsz, Row.sz]
  | .fence => by simp [flat1, rsz, Row.sz]
  | .fork _ l m => by
    have := flat_sz l
    have := flat_sz m
    simp [flat1, rsz, Row.sz]; omega
  | .loop n l => by
    have := flat_sz l
    have := Nat.mul_le_mul_left n this
    simp only [flat1, rsz_rep, Row.sz, Nat.succ_mul]; omega
theorem flat_sz : ∀ l : List Row, rsz (flat l) ≤ rsz l
  | [] => by simp [flat, rsz]
  | r :: l => by
    have := flat1_sz r
    have := flat_sz l
    simp only [flat, rsz_append, rsz]; omega
end
theorem row_sz : ∀ r : Row, 1 ≤ r.sz := by intro r; cases r <;> simp [Row.sz]
theorem len_rsz : ∀ l : List Row, l.length ≤ rsz l
  | [] => by simp [rsz]
  | r :: l => by
    have := len_rsz l
    have := row_sz r
    simp [rsz]; omega

mutual
def Row.Ok (f : Fr) : Row → Prop
  | .op t a b c => t < f.tabs.length ∧ a < f.regs ∧ b < f.regs ∧ c < f.regs
  | .load a b => a < f.regs ∧ b < f.regs ∧ 0 < f.cells
  | .store a b => a < f.regs ∧ b < f.regs ∧ 0 < f.cells
  | .fence => True
  | .fork r l m => r < f.regs ∧ rowsOk f l ∧ rowsOk f m
  | .loop n l => n ≤ 4 ∧ rowsOk f l
def rowsOk (f : Fr) : List Row → Prop
  | [] => True
  | r :: l => r.Ok f ∧ rowsOk f l
end
theorem rowsOk_iff {f : Fr} : ∀ {l : List Row}, rowsOk f l ↔ ∀ r ∈ l, r.Ok f
  | [] => by simp [rowsOk]
  | r :: l => by simp [rowsOk, rowsOk_iff (l := l)]
mutual
/-- no loop within -/
def Row.noL : Row → Prop
  | .op _ _ _ _ => True
  | .load _ _ => True
  | .store _ _ => True
  | .fence => True
  | .fork _ l m => noLs l ∧ noLs m
  | .loop _ _ => False
def noLs : List Row → Prop
  | [] => True
  | r :: l => r.noL ∧ noLs l
end
theorem noLs_iff : ∀ {l : List Row}, noLs l ↔ ∀ r ∈ l, r.noL
  | [] => by simp [noLs]
  | r :: l => by simp [noLs, noLs_iff (l := l)]
mutual
theorem flat1_ok {f : Fr} : ∀ r : Row, r.Ok f → ∀ q ∈ flat1 r, q.Ok f ∧ q.noL
  | .op t a b c, h, q, m => by simp [flat1] at m; subst m; exact ⟨h, trivial⟩
  | .load a b, h, q, m => by simp [flat1] at m; subst m; exact ⟨h, trivial⟩
  | .store a b, h, q, m => by simp [flat1] at m; subst m; exact ⟨h, trivial⟩
  | .fence, h, q, m => by simp [flat1] at m; subst m; exact ⟨h, trivial⟩
  | .fork r l k, h, q, m => by
    simp [flat1] at m; subst m
    have a := flat_ok l h.2.1
    have b := flat_ok k h.2.2
    exact ⟨⟨h.1, rowsOk_iff.mpr fun q hq => (a q hq).1, rowsOk_iff.mpr fun q hq => (b q hq).1⟩, noLs_iff.mpr fun q hq => (a q hq).2, noLs_iff.mpr fun q hq => (b q hq).2⟩
  | .loop n l, h, q, m => by
    simp only [flat1, List.mem_flatten, List.mem_replicate] at m
    obtain ⟨w, ⟨_, rfl⟩, m⟩ := m
    exact flat_ok l h.2 q m
theorem flat_ok {f : Fr} : ∀ l : List Row, rowsOk f l → ∀ q ∈ flat l, q.Ok f ∧ q.noL
  | [], h, q, m => by simp [flat] at m
  | r :: l, h, q, m => by
    simp only [flat, List.mem_append] at m
    rcases m with m | m
    · exact flat1_ok r h.1 q m
    · exact flat_ok l h.2 q m
end
mutual
theorem flat1_dep : ∀ r : Row, rdep (flat1 r) ≤ r.dep
  | .op _ _ _ _ => by simp [flat1, rdep, Row.dep]
  | .load _ _ => by simp [flat1, rdep, Row.dep]
  | .store _ _ => by simp [flat1, rdep, Row.dep]
  | .fence => by simp [flat1, rdep, Row.dep]
  | .fork _ l m => by
    have := flat_dep l
    have := flat_dep m
    simp only [flat1, rdep, Row.dep]; omega
  | .loop n l => by
    have := flat_dep l
    refine rdep_le.mpr fun q hq => ?_
    simp only [flat1, List.mem_flatten, List.mem_replicate] at hq
    obtain ⟨w, ⟨_, rfl⟩, m⟩ := hq
    have := (rdep_le (n := rdep (flat l))).mp (Nat.le_refl _) q m
    simp only [Row.dep]; omega
theorem flat_dep : ∀ l : List Row, rdep (flat l) ≤ rdep l
  | [] => by simp [flat, rdep]
  | r :: l => by
    have h1 := flat1_dep r
    have h2 := flat_dep l
    refine rdep_le.mpr fun q hq => ?_
    simp only [flat, List.mem_append] at hq
    simp only [rdep]
    rcases hq with m | m
    · have := (rdep_le (n := rdep (flat1 r))).mp (Nat.le_refl _) q m
      omega
    · have := (rdep_le (n := rdep (flat l))).mp (Nat.le_refl _) q m
      omega
end
/-! ### what rows do -/
def gt (d : Rw) (i : Nat) : Nat := d.getD i 0
/-- a table's answer -/
def Fr.ask (f : Fr) (t x y : Nat) : Nat := (f.tabs.getD t []).getD (x * f.size + y) 0
mutual
def run1 (f : Fr) : Row → Rw → Rw
  | .op t a b c, d => d.set a (f.ask t (gt d b) (gt d c))
  | .load a b, d => d.set a (gt d (f.regs + gt d b))
  | .store a b, d => d.set (f.regs + gt d a) (gt d b)
  | .fence, d => d
  | .fork r l m, d => if gt d r = 0 then runs f l d else runs f m d
  | .loop _ _, d => d
def runs (f : Fr) : List Row → Rw → Rw
  | [], d => d
  | r :: l, d => runs f l (run1 f r d)
end
/-- the event of a row -/
def ev (f : Fr) : Row → Rw → D
  | .op t _ b c, d => .tup [.str "op", di t, di (gt d b), di (gt d c)]
  | .load _ b, d => .tup [.str "load", di (gt d b), di (gt d (f.regs + gt d b))]
  | .store a b, d => .tup [.str "store", di (gt d a), di (gt d b)]
  | .fork _ _ _, _ => .tup [.str "fence"]
  | .loop _ _, _ => .tup [.str "fence"]
  | .fence, _ => .tup [.str "fence"]
/-- .. of a wrong way -/
def wev (f : Fr) : Row → Rw → D
  | .op t _ b c, d => .tup [.str "wrong op", di t, di (gt d b), di (gt d c)]
  | .load _ b, d => .tup [.str "wrong load", di (gt d b), di (gt d (f.regs + gt d b))]
  | _, _ => .non
def Row.ol : Row → Bool
  | .op _ _ _ _ => true
  | .load _ _ => true
  | .store _ _ => false
  | .fence => false
  | .fork _ _ _ => false
  | .loop _ _ => false
def Row.isFork : Row → Bool
  | .fork _ _ _ => true
  | .op _ _ _ _ => false
  | .load _ _ => false
  | .store _ _ => false
  | .fence => false
  | .loop _ _ => false
/-- a wrong way -/
def wr (f : Fr) : List Row → Rw → List D
  | [], _ => []
  | r :: l, d => if r.ol then wev f r d :: wr f l (run1 f r d) else []
mutual
def steps1 (f : Fr) : Row → Rw → List D
  | .op t a b c, d => [.tup [ev f (.op t a b c) d, .tup []]]
  | .load a b, d => [.tup [ev f (.load a b) d, .tup []]]
  | .store a b, d => [.tup [ev f (.store a b) d, .tup []]]
  | .fence, d => [.tup [ev f .fence d, .tup []]]
  | .fork r l m, d => if gt d r = 0 then .tup [.tup [.str "fork", di 0], .tup (wr f (m.take f.deep) d)] :: steps f l d else .tup [.tup [.str "fork", di 1], .tup (wr f (l.take f.deep) d)] :: steps f m d
  | .loop _ _, _ => []
def steps (f : Fr) : List Row → Rw → List D
  | [], _ => []
  | r :: l, d => steps1 f r d ++ steps f l (run1 f r d)
end
theorem runs_append (f : Fr) : ∀ (a b : List Row) (d : Rw), runs f (a ++ b) d = runs f b (runs f a d)
  | [], b, d => rfl
  | r :: a, b, d => by simp [runs, runs_append f a b]
theorem steps_append (f : Fr) : ∀ (a b : List Row) (d : Rw), steps f (a ++ b) d = steps f a d ++ steps f b (runs f a d)
  | [], b, d => rfl
  | r :: a, b, d => by simp [steps, runs, steps_append f a b]
/-- a datum -/
def Fr.Dat (f : Fr) (d : Rw) : Prop := RwOk f.size (f.regs + f.cells) d
theorem getD_lt {s n : Nat} {d : Rw} (h : RwOk s n d) (hs : 0 < s) (i : Nat) : gt d i < s := by
  unfold gt
  rw [List.getD_eq_getElem?_getD]
  by_cases k : i < d.length
  · rw [List.getElem?_eq_getElem k]; exact h.2 _ (List.getElem_mem k)
  · rw [List.getElem?_eq_none (by omega)]; exact hs
theorem set_ok {s n : Nat} {d : Rw} (h : RwOk s n d) (i x : Nat) (hx : x < s) : RwOk s n (d.set i x) := by
  refine ⟨by simp [h.1], fun y hy => ?_⟩
  rcases List.mem_or_eq_of_mem_set hy with m | m
  · exact h.2 y m
  · subst m; exact hx
theorem ask_lt {f : Fr} (hf : f.Ok) (t x y : Nat) : f.ask t x y < f.size := by
  unfold Fr.ask
  have s2 := hf.s2
  by_cases k : t < f.tabs.length
  · have e : f.tabs.getD t [] = f.tabs[t] := by rw [List.getD_eq_getElem?_getD, List.getElem?_eq_getElem k]; rfl
    rw [e]
    exact getD_lt (hf.t _ (List.getElem_mem k)) (by omega) _
  · have e : f.tabs.getD t [] = [] := by rw [List.getD_eq_getElem?_getD, List.getElem?_eq_none (by omega)]; rfl
    rw [e]; simp; omega
theorem ask_get {f : Fr} (hf : f.Ok) {t x y : Nat} (ht : t < f.tabs.length) (hx : x < f.size) (hy : y < f.size) : ∃ r : Rw, f.tabs[t]? = some r ∧ r[x * f.size + y]? = some (f.ask t x y) := by
  have o := hf.t _ (List.getElem_mem ht)
  refine ⟨f.tabs[t], List.getElem?_eq_getElem ht, ?_⟩
  have e : f.tabs.getD t [] = f.tabs[t] := by rw [List.getD_eq_getElem?_getD, List.getElem?_eq_getElem ht]; rfl
  have l : x * f.size + y < f.tabs[t].length := by
    rw [o.1]
    have : (x + 1) * f.size ≤ f.size * f.size := Nat.mul_le_mul_right _ hx
    rw [Nat.succ_mul] at this
    omega
  unfold Fr.ask
  rw [e, List.getD_eq_getElem?_getD, List.getElem?_eq_getElem l]
  rfl
mutual
theorem run1_ok {f : Fr} (hf : f.Ok) : ∀ (r : Row) (d : Rw), f.Dat d → f.Dat (run1 f r d)
  | .op t a b c, d, h => set_ok h _ _ (ask_lt hf _ _ _)
  | .load a b, d, h => set_ok h _ _ (getD_lt h (by have := hf.s2; omega) _)
  | .store a b, d, h => set_ok h _ _ (getD_lt h (by have := hf.s2; omega) _)
  | .fence, d, h => h
  | .fork r l m, d, h => by
    simp only [run1]
    split
    · exact runs_ok hf l d h
    · exact runs_ok hf m d h
  | .loop _ _, d, h => h
theorem runs_ok {f : Fr} (hf : f.Ok) : ∀ (l : List Row) (d : Rw), f.Dat d → f.Dat (runs f l d)
  | [], d, h => h
  | r :: l, d, h => runs_ok hf l _ (run1_ok hf r d h)
end
theorem getD_get {s n i : Nat} {d : Rw} (h : RwOk s n d) (k : i < n) : d[i]? = some (gt d i) := by
  unfold gt
  rw [List.getD_eq_getElem?_getD, List.getElem?_eq_getElem (by rw [h.1]; exact k)]; rfl
/-! ### sources, bools -/
@[simp] theorem srcOf_dR (S : List O) (r : Rw) : srcOf S (dR r) = some ⟨[], r.map di⟩ := id rfl
@[simp] theorem srcOf_tup (S : List O) (l : List D) : srcOf S (.tup l) = some ⟨[], l⟩ := id rfl
@[simp] theorem srcOf_lst (S : List O) (l : List D) : srcOf S (.lst l) = some ⟨[], l⟩ := id rfl
@[simp] theorem boolsD_map {α : Type} (p : α → Bool) : ∀ l : List α, boolsD (l.map fun x => .bl (p x)) = some (l.map p)
  | [] => rfl
  | x :: l => by simp [boolsD, boolsD_map p l]
@[simp] theorem all_tt {α : Type} (l : List α) : (l.all fun _ => true) = true := by induction l <;> simp_all
theorem all_id {α : Type} (p : α → Bool) (l : List α) : (l.map p).all id = l.all p := by simp [List.all_map, Function.comp_def]
@[simp] theorem bi_all {α : Type} (S : List O) (p : α → Bool) (l : List α) : biD S .all [.lst (l.map fun x => .bl (p x))] = some (.bl (l.all p)) := by
  simp [biD, lstOf, all_id]
@[simp] theorem tyD_dR (S : List O) (r : Rw) : tyD S (dR r) = some .tuple := id rfl
@[simp] theorem tyD_di (S : List O) (r : Nat) : tyD S (di r) = some .int := id rfl
@[simp] theorem tyD_dF (S : List O) (r : Fr) : tyD S (dF r) = some .tuple := id rfl
@[simp] theorem len_dR (S : List O) (r : Rw) : biD S .len [dR r] = some (di r.length) := by simp [biD, dR, seqOf, di]
@[simp] theorem len_tup (S : List O) (l : List D) : biD S .len [.tup l] = some (di l.length) := by simp [biD, seqOf, di]
@[simp] theorem len_lst (S : List O) (l : List D) : biD S .len [.lst l] = some (di l.length) := by simp [biD, seqOf, di]
@[simp] theorem len_dF (S : List O) (f : Fr) : biD S .len [dF f] = some (di 5) := id rfl
theorem len_ref {S : List O} {n : Nat} {l : List D} (h : S[n]? = some (.lst l)) : biD S .len [.ref n] = some (di l.length) := by simp [biD, seqOf, h, di]
@[simp] theorem tyD_int (S : List O) (i : Int) : tyD S (.int i) = some .int := id rfl
@[simp] theorem tyD_bl (S : List O) (i : Bool) : tyD S (.bl i) = some .bool := id rfl
@[simp] theorem tyD_str (S : List O) (i : Str) : tyD S (.str i) = some .str := id rfl
@[simp] theorem tyD_tup (S : List O) (i : List D) : tyD S (.tup i) = some .tuple := id rfl
@[simp] theorem tyD_lst (S : List O) (i : List D) : tyD S (.lst i) = some .list := id rfl
@[simp] theorem tyD_non (S : List O) : tyD S .non = some .non := id rfl
theorem isa_T {S : List O} {d : D} (h : (tyD S d).isSome = true) : biD S (.isa [.tuple]) [d] = some (.bl (isT d)) := by
  cases d <;> simp [biD, tyD, isT, Ty.sub] at h ⊢
  split at h <;> simp_all
theorem isa_S {S : List O} {d : D} (h : (tyD S d).isSome = true) : biD S (.isa [.str]) [d] = some (.bl (isS d)) := by
  cases d <;> simp [biD, tyD, isS, Ty.sub] at h ⊢
  split at h <;> simp_all
@[simp] theorem isa_T_tup (S : List O) (l : List D) : biD S (.isa [.tuple]) [.tup l] = some (.bl true) := isa_T rfl
@[simp] theorem isa_T_dR (S : List O) (l : Rw) : biD S (.isa [.tuple]) [dR l] = some (.bl true) := isa_T rfl
@[simp] theorem isa_T_dF (S : List O) (l : Fr) : biD S (.isa [.tuple]) [dF l] = some (.bl true) := isa_T rfl
@[simp] theorem tuple_dR (S : List O) (l : Rw) : biD S .tuple [dR l] = some (dR l) := id rfl
@[simp] theorem tuple_tup (S : List O) (l : List D) : biD S .tuple [.tup l] = some (.tup l) := id rfl
@[simp] theorem tuple_lst (S : List O) (l : List D) : biD S .tuple [.lst l] = some (.tup l) := id rfl
theorem tuple_ref {S : List O} {n : Nat} {l : List D} (h : S[n]? = some (.lst l)) : biD S .tuple [.ref n] = some (.tup l) := by simp [biD, lstOf, h]
@[simp] theorem isa_S_str (S : List O) (l : Str) : biD S (.isa [.str]) [.str l] = some (.bl true) := isa_S rfl
theorem bi_allL (S : List O) (l : List D) : biD S .all [.lst l] = (boolsD l).map fun l => .bl (l.all id) := by simp [biD, lstOf]
@[simp] theorem boolsD_nil : boolsD [] = some [] := id rfl
@[simp] theorem boolsD_cons (b : Bool) (l : List D) : boolsD (.bl b :: l) = (boolsD l).map (b :: ·) := id rfl
theorem bin_mul_lst (S : List O) {x : List D} {n : Nat} (h : x.length * n ≤ 1000000) (hn : n ≤ 1000000) : binD S .mul (.lst x) (di n) = some (.lst (List.replicate n x).flatten) := by
  have e : binD S .mul (.lst x) (di n) = if -9223372036854775808 ≤ (n : Int) ∧ (n : Int) < 9223372036854775808 ∧ szOk (x.length * (n : Int).toNat) then some (.lst (List.replicate (n : Int).toNat x).flatten) else none := id rfl
  rw [e, if_pos ⟨by omega, by omega, by rw [Int.toNat_natCast]; exact szOk_of h⟩, Int.toNat_natCast]
@[simp] theorem bi_int_bl (S : List O) (b : Bool) : biD S .int [.bl b] = some (.int (if b then 1 else 0)) := id rfl
section
variable {S X : List O} {l m : List D} {o o1 o2 : O} {d : D}
@[simp] theorem get0 : (S ++ o :: X)[S.length]? = some o := by simp
@[simp] theorem get1 : (S ++ o1 :: o :: X)[S.length + 1]? = some o := by simp [List.getElem?_append_right]
@[simp] theorem get2 : (S ++ o1 :: o2 :: o :: X)[S.length + 2]? = some o := by simp [List.getElem?_append_right]
@[simp] theorem set0 (a : O) : (S ++ o :: X).set S.length a = S ++ a :: X := by simp
@[simp] theorem set1 (a : O) : (S ++ o1 :: o :: X).set (S.length + 1) a = S ++ o1 :: a :: X := by simp [List.set_append_right]
@[simp] theorem set2 (a : O) : (S ++ o1 :: o2 :: o :: X).set (S.length + 2) a = S ++ o1 :: o2 :: a :: X := by simp [List.set_append_right]
theorem isLD_of {n : Nat} (h : S[n]? = some (.lst l)) : isLD S (.ref n) = true := by simp [isLD, isL, h]
theorem appD_of {n : Nat} (h : S[n]? = some (.lst l)) (k : l.length ≤ 1000000) : appD S (.ref n) d = some (S.set n (.lst (l ++ [d]))) := by
  simp only [appD, h]
  rw [if_pos (by omega)]
theorem extD_of {n : Nat} (h : S[n]? = some (.lst l)) (e : lstOf S d = some m) (k : l.length + m.length ≤ 1000000) : extD S (.ref n) d = some (S.set n (.lst (l ++ m))) := by
  simp only [extD, h, e, szOk_of k, if_true]
@[simp] theorem isL0 : isLD (S ++ .lst l :: X) (.ref S.length) = true := isLD_of get0
@[simp] theorem isL1 : isLD (S ++ o1 :: .lst l :: X) (.ref (S.length + 1)) = true := isLD_of get1
@[simp] theorem isL2 : isLD (S ++ o1 :: o2 :: .lst l :: X) (.ref (S.length + 2)) = true := isLD_of get2
theorem app0 (k : l.length ≤ 1000000) : appD (S ++ .lst l :: X) (.ref S.length) d = some (S ++ .lst (l ++ [d]) :: X) := by rw [appD_of get0 k, set0]
theorem app1 (k : l.length ≤ 1000000) : appD (S ++ o1 :: .lst l :: X) (.ref (S.length + 1)) d = some (S ++ o1 :: .lst (l ++ [d]) :: X) := by rw [appD_of get1 k, set1]
theorem app2 (k : l.length ≤ 1000000) : appD (S ++ o1 :: o2 :: .lst l :: X) (.ref (S.length + 2)) d = some (S ++ o1 :: o2 :: .lst (l ++ [d]) :: X) := by rw [appD_of get2 k, set2]
theorem ext0 (k : l.length + m.length ≤ 1000000) : extD (S ++ .lst l :: X) (.ref S.length) (.lst m) = some (S ++ .lst (l ++ m) :: X) := by rw [extD_of get0 rfl k, set0]
theorem ext1 (k : l.length + m.length ≤ 1000000) : extD (S ++ o1 :: .lst l :: X) (.ref (S.length + 1)) (.lst m) = some (S ++ o1 :: .lst (l ++ m) :: X) := by rw [extD_of get1 rfl k, set1]
end
theorem wrong_op : Str.ofString "wrong " ++ Str.ofString "op" = Str.ofString "wrong op" := by decide +kernel
theorem wrong_load : Str.ofString "wrong " ++ Str.ofString "load" = Str.ofString "wrong load" := by decide +kernel
theorem bin_str (S : List O) (x y z : Str) (h : x ++ y = z) (k : szOk (x.length + y.length) = true) : binD S .add (.str x) (.str y) = some (.str z) := by
  have e : binD S .add (.str x) (.str y) = if szOk (x.length + y.length) then some (.str (x ++ y)) else none := id rfl
  rw [e, if_pos k, h]
@[simp] theorem bin_wrong_op (S : List O) : binD S .add (.str (Str.ofString "wrong ")) (.str (Str.ofString "op")) = some (.str (Str.ofString "wrong op")) := bin_str S _ _ _ wrong_op (by decide +kernel)
@[simp] theorem bin_wrong_load (S : List O) : binD S .add (.str (Str.ofString "wrong ")) (.str (Str.ofString "load")) = some (.str (Str.ofString "wrong load")) := bin_str S _ _ _ wrong_load (by decide +kernel)
@[simp] theorem revD_tup (S : List O) (l : List D) : revD S (.tup l) = some (.tup l.reverse) := id rfl
@[simp] theorem lstOf_lst (S : List O) (l : List D) : lstOf S (.lst l) = some l := id rfl
@[simp] theorem seqOf_lst (S : List O) (l : List D) : seqOf S (.lst l) = some l := id rfl
@[simp] theorem seqOf_tup (S : List O) (l : List D) : seqOf S (.tup l) = some l := id rfl
@[simp] theorem seqOf_dR (S : List O) (l : Rw) : seqOf S (dR l) = some (l.map di) := id rfl
theorem isa_ty {S : List O} {d : D} {t : Ty} (tys : List Ty) (h : tyD S d = some t) : biD S (.isa tys) [d] = some (.bl (tys.any fun u => t.sub u)) := by simp [biD, h]

/-! ### cuts -/
theorem cut_to (l : List D) (m : Nat) : cutD l none (some (m : Int)) = l.take m := by
  unfold cutD
  rw [HT.sIx_nat, HT.sIx_none, List.drop_zero, Nat.sub_zero, ← List.take_eq_take_min]
theorem cut_from (l : List D) (m : Nat) : cutD l (some (m : Int)) none = l.drop m := by
  unfold cutD
  rw [HT.sIx_nat, HT.sIx_none]
  by_cases h : m ≤ l.length
  · rw [Nat.min_eq_left h, List.take_of_length_le (by simp)]
  · rw [Nat.min_eq_right (by omega), List.drop_of_length_le (Nat.le_refl _), List.drop_of_length_le (by omega)]; simp
theorem cut_from1 (l : List D) (m : Nat) : cutD l (some ((m : Int) + 1)) none = l.drop (m + 1) := cut_from l (m + 1)
theorem cut_to1 (l : List D) (m : Nat) : cutD l none (some ((m : Int) + 1)) = l.take (m + 1) := cut_to l (m + 1)
@[simp] theorem cut_from_1 (l : List D) : cutD l (some 1) none = l.drop 1 := cut_from l 1
@[simp] theorem cut_from_2 (l : List D) : cutD l (some 2) none = l.drop 2 := cut_from l 2
@[simp] theorem cut_to_1 (l : List D) : cutD l none (some 1) = l.take 1 := cut_to l 1
@[simp] theorem cut_to_2 (l : List D) : cutD l none (some 2) = l.take 2 := cut_to l 2
theorem cut_to_neg (l : List D) : cutD l none (some (-1)) = l.dropLast := by
  unfold cutD
  have e : HT.sIx l.length l.length (some (-1)) = l.length - 1 := by
    unfold HT.sIx
    simp only [show (-1 : Int) < 0 by omega, if_true]
    omega
  rw [e, HT.sIx_none, List.drop_zero, Nat.sub_zero, List.dropLast_eq_take]
theorem cut_from_neg (l : List D) : cutD l (some (-1)) none = l.drop (l.length - 1) := by
  unfold cutD
  have e : HT.sIx l.length 0 (some (-1)) = l.length - 1 := by
    unfold HT.sIx
    simp only [show (-1 : Int) < 0 by omega, if_true]
    omega
  rw [e, HT.sIx_none, List.take_of_length_le (by simp)]
@[simp] theorem optI_int (i : Int) : optI (.int i) = some (some i) := id rfl
@[simp] theorem sli_tup (S : List O) (l : List D) (a b : Option Int) : sliD S (.tup l) a b = some (.tup (cutD l a b)) := id rfl
@[simp] theorem sli_lst (S : List O) (l : List D) (a b : Option Int) : sliD S (.lst l) a b = some (.lst (cutD l a b)) := id rfl
@[simp] theorem sli_scr (S : List O) (l : List D) (a b : Option Int) : sliD S (.scr l) a b = some (.lst (cutD l a b)) := id rfl
theorem sli_ref {S : List O} {n : Nat} {l : List D} (h : S[n]? = some (.lst l)) (a b : Option Int) : sliD S (.ref n) a b = some (.lst (cutD l a b)) := by simp [sliD, lstOf, h]
theorem srcOf_ref {S : List O} {n : Nat} {l : List D} (h : S[n]? = some (.lst l)) : srcOf S (.ref n) = some ⟨[(n, .lst l)], l⟩ := by simp [srcOf, h]
@[simp] theorem szOk_small {n : Nat} (h : n ≤ 64) : szOk n = true := szOk_of (by omega)
/-! ### texts -/
theorem ofString_inj (a b : String) : Str.ofString a = Str.ofString b ↔ a = b := by
  constructor
  · intro h
    rw [Str.ofString_eq_toList, Str.ofString_eq_toList] at h
    injection h with h
    have h := congrArg Array.toList h
    simp only at h
    have h := (List.map_inj_right (f := Char.toNat) fun x y z => Char.toNat_inj.mp z).mp h
    exact String.toList_inj.mp h
  · rintro rfl; rfl
theorem strOk_ofString (a : String) : PyData.strOk (Str.ofString a) = true := by
  rw [Str.ofString_eq_toList]
  simp only [PyData.strOk, List.all_toArray, List.all_map, List.all_eq_true, Function.comp, decide_eq_true_eq]
  intro c _
  have := c.valid
  simp only [UInt32.isValidChar, Nat.isValidChar] at this
  simp only [Char.toNat]
  omega
@[simp] theorem eqD_str (S : List O) (a b : String) : eqD S (.str (Str.ofString a)) (.str (Str.ofString b)) = some (decide (a = b)) := by
  have e : eqD S (.str (Str.ofString a)) (.str (Str.ofString b)) = if PyData.strOk (Str.ofString a) && PyData.strOk (Str.ofString b) then some (decide (Str.ofString a = Str.ofString b)) else none := id rfl
  rw [e, strOk_ofString, strOk_ofString]
  simp only [Bool.and_self, if_true]
  exact congrArg some (decide_eq_decide.mpr (ofString_inj a b))
theorem eqD_strS {S : List O} {x : Str} (h : PyData.strOk x = true) (b : String) : eqD S (.str x) (.str (Str.ofString b)) = some (decide (x = Str.ofString b)) := by
  have e : eqD S (.str x) (.str (Str.ofString b)) = if PyData.strOk x && PyData.strOk (Str.ofString b) then some (decide (x = Str.ofString b)) else none := id rfl
  rw [e, strOk_ofString, h]
  simp
@[simp] theorem shp_str (a : String) : shp (.str (Str.ofString a)) = true := by
  simp [shp, SeqAt.shaped, PyData.canLay0, PyData.depth, strOk_ofString]
@[simp] theorem anyD_nil (S : List O) (x : D) : anyD S x [] = some false := id rfl
theorem anyD_cons {S : List O} {x y : D} {l : List D} {b c : Bool} (h : eqD S y x = some b) (k : anyD S x l = some c) : anyD S x (y :: l) = some (b || c) := by
  simp [anyD, h, k]
theorem hasD_str2 (S : List O) (x a b : String) : hasD S (.str (Str.ofString x)) (.tup [.str (Str.ofString a), .str (Str.ofString b)]) = some (decide (a = x) || decide (b = x)) := by
  have e : datOf S (.str (Str.ofString x)) = some (.str (Str.ofString x)) := id rfl
  simp [hasD, e, anyD]
@[simp] theorem kfind_nil (x : Str) : kfind [] x = none := id rfl
@[simp] theorem kfind_cons (k : String) (v : D) (l : List D) (x : String) : kfind (.tup [.str (Str.ofString k), v] :: l) (Str.ofString x) = if k = x then some v else kfind l (Str.ofString x) := by
  by_cases h : k = x
  · subst h; simp [kfind]
  · have : ¬ Str.ofString k = Str.ofString x := fun e => h ((ofString_inj k x).mp e)
    simp [kfind, h, this]
@[simp] theorem kgetD_str (rows : List D) (x : String) (z : D) : kgetD (some (.tup rows)) (.str (Str.ofString x)) z = some ((kfind rows (Str.ofString x)).getD z) := id rfl
@[simp] theorem dRows_append (a b : List Row) : dRows (a ++ b) = dRows a ++ dRows b := by simp [dRows_map]
theorem dRows_rep (l : List Row) (n : Nat) : dRows (List.replicate n l).flatten = (List.replicate n (dRows l)).flatten := by simp [dRows_map, List.map_flatten]
@[simp] theorem dRows_len (l : List Row) : (dRows l).length = l.length := by simp [dRows_map]
@[simp] theorem dRows_nil : dRows [] = [] := id rfl
@[simp] theorem dRows_cons (r : Row) (l : List Row) : dRows (r :: l) = dRow r :: dRows l := id rfl
@[simp] theorem clean_dRowsS (n : Nat) (l : List Row) : cleans n (dRows l) = true := clean_dRows n l
theorem flat_snoc (a : List Row) (r : Row) : flat (a ++ [r]) = flat a ++ flat1 r := by rw [flat_append]; simp [flat]
theorem pop_of {S : List O} {n : Nat} {l : List D} {d : D} (h : S[n]? = some (.lst (l ++ [d]))) : popD S (.ref n) = some (d, S.set n (.lst l)) := by
  simp [popD, h]
theorem pop1 {S X : List O} {o : O} {l : List D} {d : D} : popD (S ++ o :: .lst (l ++ [d]) :: X) (.ref (S.length + 1)) = some (d, S ++ o :: .lst l :: X) := by
  rw [pop_of get1, set1]
theorem wr_clean (f : Fr) (n : Nat) : ∀ (l : List Row) (d : Rw), cleans n (wr f l d) = true
  | [], d => rfl
  | r :: l, d => by
    rw [wr]
    split
    · rw [cleans_cons, wr_clean f n l]
      cases r <;> simp [wev]
    · rfl
theorem ev_clean (f : Fr) (n : Nat) (r : Row) (d : Rw) : (ev f r d).clean n = true := by cases r <;> simp [ev]
theorem noL_ok {f : Fr} {l m : List Row} {r : Nat} (h : (Row.fork r l m).noL) : noLs l ∧ noLs m := h
end Rx

set_option Elab.async false
set_option autoImplicit false
set_option linter.all false
set_option maxRecDepth 100000
/-! W4: dicts whose keys are rows; rows of values over data. -/
namespace Rx
open PySem L2 Pl
/-! ### dicts by rows -/
def keyR (r : Rw) : NestedKey := .tup (r.map fun (x : Nat) => .num (x : Int))
theorem keyNs_di : ∀ r : Rw, keyNs (r.map di) = some (r.map fun (x : Nat) => NestedKey.num (x : Int))
  | [] => rfl
  | x :: r => by simp [keyNs, keyN, di, keyNs_di r]
@[simp] theorem keyN_dR (r : Rw) : keyN (dR r) = some (keyR r) := by simp [dR, keyN, keyNs_di, keyR]
theorem keyR_inj {a b : Rw} : keyR a = keyR b ↔ a = b := by
  constructor
  · intro h
    simp only [keyR, NestedKey.tup.injEq] at h
    exact (List.map_inj_right (f := fun (x : Nat) => NestedKey.num (x : Int)) (fun x y z => by
      injection z with z; omega)).mp h
  · rintro rfl; rfl
theorem depth_keyR (r : Rw) : (keyR r).depth ≤ 8 := by
  have : ∀ r : Rw, NestedKey.depthAll (r.map fun (x : Nat) => NestedKey.num (x : Int)) = 0 := by
    intro r
    induction r with
    | nil => simp [NestedKey.depthAll]
    | cons x r ih => simp [NestedKey.depthAll, NestedKey.depth, ih]
  simp [keyR, NestedKey.depth, this]
section
variable {α : Type} (g : α → D)
def kvM (w : List (Rw × α)) : List (D × D) := w.map fun p => (dR p.1, g p.2)
theorem kvM_tup (w : List (Rw × α)) : (kvM g w).all (fun kv => isTup kv.1) = true := by
  simp [kvM, dR, isTup]
theorem okKey_dR (w : List (Rw × α)) (r : Rw) : okKey (kvM g w) (dR r) = some (keyR r) := by
  have h : isTup (dR r) = true := rfl
  simp only [okKey, h, if_true, kvM_tup, keyN_dR, Option.bind_some, depth_keyR]
theorem atK_dR : ∀ (w : List (Rw × α)) (r : Rw), atK (kvM g w) (keyR r) = (w.lookup r).map g
  | [], r => rfl
  | (q, a) :: w, r => by
    have ih := atK_dR w r
    simp only [atK, kvM] at ih
    simp only [atK, kvM, List.map_cons, List.find?_cons, keyN_dR, Option.some.injEq, keyR_inj, List.lookup_cons]
    by_cases h : q = r
    · subst h; simp
    · have h' : (r == q) = false := by simp [Ne.symm h]
      simp only [h, decide_false, h']
      exact ih
theorem dget_dR {S : List O} {n : Nat} {w : List (Rw × α)} (h : S[n]? = some (.dict (kvM g w))) (r : Rw) : dgetD S (.ref n) (dR r) = some ((w.lookup r).map g) := by
  simp only [dgetD, h, okKey_dR, Option.map_some, atK_dR]
theorem dput_new {S : List O} {n : Nat} {w : List (Rw × α)} (h : S[n]? = some (.dict (kvM g w))) {r : Rw} (hr : w.lookup r = none) (hl : w.length ≤ 1000000) (a : α) : dputD S (.ref n) (dR r) (g a) = some (S.set n (.dict (kvM g (w ++ [(r, a)])))) := by
  have l : (kvM g w).length < 16777216 := by simp [kvM]; omega
  simp only [dputD, h, okKey_dR, Option.bind_some, l, if_true, putD2, atK_dR, hr, Option.map_none, Option.isSome_none, Bool.false_eq_true, if_false]
  simp [kvM]
theorem dput_same {S : List O} {n : Nat} {w : List (Rw × α)} (h : S[n]? = some (.dict (kvM g w))) {r : Rw} (v : D) (hw : ∀ p ∈ w, g p.2 = v) (hr : (w.lookup r).isSome = true) (hl : w.length ≤ 1000000) : dputD S (.ref n) (dR r) v = some (S.set n (.dict (kvM g w))) := by
  have l : (kvM g w).length < 16777216 := by simp [kvM]; omega
  have e : ((w.lookup r).map g).isSome = true := by simpa using hr
  simp only [dputD, h, okKey_dR, Option.bind_some, l, if_true, putD2, atK_dR, e]
  congr 3
  simp only [kvM, List.map_map]
  refine List.map_congr_left fun p hp => ?_
  simp only [Function.comp, hw p hp]
  split <;> rfl
theorem keysD_dR {S : List O} {n : Nat} {w : List (Rw × α)} (h : S[n]? = some (.dict (kvM g w))) : keysD S (.ref n) = some ((w.map (·.1)).map dR) := by
  simp only [keysD, h, kvM_tup, if_true]
  simp [kvM]
end
theorem lookup_isSome {α : Type} (r : Rw) : ∀ w : List (Rw × α), (w.lookup r).isSome = decide (r ∈ w.map (·.1))
  | [] => rfl
  | (q, a) :: w => by
    rw [List.lookup_cons]
    by_cases h : r = q
    · subst h; simp
    · have h' : (r == q) = false := by simp [h]
      rw [h']
      simp only [lookup_isSome r w]
      simp [h]
theorem lookup_isNone {α : Type} (r : Rw) (w : List (Rw × α)) : (w.lookup r).isNone = !decide (r ∈ w.map (·.1)) := by
  rw [← lookup_isSome]; cases w.lookup r <;> rfl
theorem lk_none {α : Type} {r : Rw} {w : List (Rw × α)} (h : r ∉ w.map (·.1)) : w.lookup r = none := by
  have := lookup_isSome r w
  rw [decide_eq_false h] at this
  cases e : w.lookup r with
  | none => rfl
  | some a => rw [e] at this; cases this
section
variable {S X : List O} {o o1 o2 o3 : O}
@[simp] theorem get3 : (S ++ o1 :: o2 :: o3 :: o :: X)[S.length + 3]? = some o := by simp [List.getElem?_append_right]
@[simp] theorem set3 (a : O) : (S ++ o1 :: o2 :: o3 :: o :: X).set (S.length + 3) a = S ++ o1 :: o2 :: o3 :: a :: X := by simp [List.set_append_right]
end
/-! ### fields -/
@[simp] theorem beq_str (a b : String) : (Str.ofString a == Str.ofString b) = decide (a = b) := by
  rw [Bool.eq_iff_iff]; simp [ofString_inj]
@[simp] theorem lookup_str (a b : String) (x : D) (r : List (Str × D)) : List.lookup (Str.ofString a) ((Str.ofString b, x) :: r) = if a = b then some x else List.lookup (Str.ofString a) r := by
  rw [List.lookup_cons, beq_str]
  by_cases h : a = b <;> simp [h]
theorem attr_of {S : List O} {n c : Nat} {fs : List (Str × D)} (h : S[n]? = some (.ins c fs)) (f : Str) : attrD S (.ref n) f = fs.lookup f := by simp [attrD, h]
theorem mthd_of {S : List O} {n c : Nat} {fs : List (Str × D)} (h : S[n]? = some (.ins c fs)) (m : Str) (hm : fs.lookup m = none) : methD S (.ref n) c m = true := by simp [methD, h, hm]
theorem attrS_of {S : List O} {n c : Nat} {fs : List (Str × D)} (h : S[n]? = some (.ins c fs)) (f : Str) (d : D) (hl : fs.length < 1000) : attrS S (.ref n) f d = some (S.set n (.ins c (putD f d fs))) := by simp [attrS, h, hl]
theorem putD_nil (a : Str) (v : D) : putD a v [] = [(a, v)] := id rfl
theorem putD_cons (a b : String) (v x : D) (r : List (Str × D)) : putD (Str.ofString a) v ((Str.ofString b, x) :: r) = if b = a then (Str.ofString b, v) :: r else (Str.ofString b, x) :: putD (Str.ofString a) v r := by
  rw [putD]
  by_cases h : b = a
  · subst h; simp
  · have : ¬ Str.ofString b = Str.ofString a := fun e => h ((ofString_inj b a).mp e)
    simp [h, this]
/-! ### the end of a def that changes what stands before -/
theorem tidy_app (n : Nat) : ∀ (a b c d : List O), a.length = b.length → tidy n (a ++ c) (b ++ d) = (tidy n a b && tidy n c d)
  | [], [], c, d, _ => by simp [tidy]
  | [], _ :: _, c, d, h => by simp at h
  | _ :: _, [], c, d, h => by simp at h
  | x :: a, y :: b, c, d, h => by
    have h' : a.length = b.length := by simpa using h
    simp [tidy, tidy_app n a b c d h', Bool.and_assoc]
theorem fin_chg {S S' X : List O} {d : D} (hl : S'.length = S.length) (ht : tidy S.length S' S = true) (hd : ∀ m, d ≠ .ref m) (h : d.clean S.length = true) : fin true S.length S d (S' ++ X) = .ok d S' := by
  have e : (S' ++ X).take S.length = S' := by rw [← hl, List.take_left']; rfl
  unfold fin
  simp only [if_true, e, ht]
  cases d with
  | ref m => exact (hd m rfl).elim
  | _ => simp_all
theorem fin_keep {S S' : List O} {d : D} (ht : tidy S.length (S'.take S.length) S = false) : fin true S.length S d S' = .ok d S' := by
  unfold fin
  simp [ht]
theorem fin_keepN {S S' : List O} {d : D} {n : Nat} (hn : n = S.length) (ht : tidy n (S'.take n) S = false) : fin true n S d S' = .ok d S' := by
  unfold fin
  simp [ht]
theorem fin_chgN {S S' X : List O} {d : D} {n : Nat} (hn : n = S.length) (hl : S'.length = n) (ht : tidy n S' S = true) (hd : ∀ m, d ≠ .ref m) (h : d.clean n = true) : fin true n S d (S' ++ X) = .ok d S' := by
  subst hn; exact fin_chg hl ht hd h
theorem fin_appN {S X : List O} {d : D} {n : Nat} (hn : n = S.length) (hd : ∀ m, d ≠ .ref m) (h : d.clean n = true) : fin true n S d (S ++ X) = .ok d S := by
  subst hn; exact fin_app hd h
theorem fin_chg_lst {S S' X : List O} {m : Nat} {l : List D} (hl : S'.length = S.length) (ht : tidy S.length S' S = true) (hm : S.length ≤ m) (h : (S' ++ X)[m]? = some (.lst l)) (hc : cleans S.length l = true) : fin true S.length S (.ref m) (S' ++ X) = .ok (.lst l) S' := by
  have e : (S' ++ X).take S.length = S' := by rw [← hl, List.take_left']; rfl
  unfold fin
  simp only [if_true, e, ht]
  rw [if_neg (by omega), h]
  simp [hc]
/-! ### rows of values over data -/
def col (data : List Rw) (s : Nat) : Rw := data.map fun d => gt d s
def begins (f : Fr) (data : List Rw) : List Rw := (List.range f.regs).map (col data)
def wanted (f : Fr) (l : List Row) (data : List Rw) : List Rw := begins f (data.map (runs f (flat l)))
/-- all its values are alike -/
def cst (r : Rw) : Bool := decide (((nubI (r.map fun (x : Nat) => (x : Int))).length : Int) = 1)
def isLet (lot a b : Rw) : Bool := (!decide (0 ∈ lot) || cst a) && (!decide (1 ∈ lot) || cst b)
def ans (f : Fr) (t : Nat) (a b : Rw) : Rw := (a.zip b).map fun p => f.ask t p.1 p.2
def anss (f : Fr) (a b : Rw) : List Rw := (List.range f.tabs.length).map fun t => ans f t a b
theorem intsD_di : ∀ r : Rw, intsD (r.map di) = some (r.map fun (x : Nat) => (x : Int))
  | [] => rfl
  | x :: r => by simp [intsD, intsD_di r]
theorem lenset_dR (S : List O) {r : Rw} (h : r.length ≤ 60) : biD S .lenset [dR r] = some (.int ((nubI (r.map fun (x : Nat) => (x : Int))).length : Nat)) := by
  have hl : r.length < 64 := by omega
  simp [biD, dR, intsD_di, hl]
theorem col_ok {f : Fr} {data : List Rw} (hf : f.Ok) (hd : ∀ d ∈ data, f.Dat d) (s : Nat) : RwOk f.size data.length (col data s) := by
  refine ⟨by simp [col], fun x hx => ?_⟩
  obtain ⟨d, h, rfl⟩ := List.mem_map.mp hx
  exact getD_lt (hd d h) (by have := hf.s2; omega) s
theorem begins_ok {f : Fr} {data : List Rw} (hf : f.Ok) (hd : ∀ d ∈ data, f.Dat d) : ∀ r ∈ begins f data, RwOk f.size data.length r := by
  intro r hr
  obtain ⟨s, _, rfl⟩ := List.mem_map.mp hr
  exact col_ok hf hd s
theorem wanted_ok {f : Fr} {data : List Rw} (hf : f.Ok) (hd : ∀ d ∈ data, f.Dat d) (l : List Row) : ∀ r ∈ wanted f l data, RwOk f.size data.length r := by
  have h := begins_ok (data := data.map (runs f (flat l))) hf fun d h => by
    obtain ⟨q, h', rfl⟩ := List.mem_map.mp h
    exact runs_ok hf _ _ (hd q h')
  simpa [wanted] using h
theorem ans_ok {f : Fr} (hf : f.Ok) {n : Nat} {a b : Rw} (ha : RwOk f.size n a) (hb : RwOk f.size n b) (t : Nat) : RwOk f.size n (ans f t a b) := by
  refine ⟨by simp [ans, ha.1, hb.1], fun x hx => ?_⟩
  obtain ⟨p, _, rfl⟩ := List.mem_map.mp hx
  exact ask_lt hf _ _ _
end Rx

set_option Elab.async false
set_option autoImplicit false
set_option linter.all false
set_option maxRecDepth 100000
/-! W5: rows that are had in silence: how they are found. -/
namespace Rx
open PySem L2 Pl
abbrev Ent := Rw × Nat × Rw × Rw
def wayD : Option (Nat × Rw × Rw) → D
  | none => .non
  | some (t, x, y) => .tup [di t, dR x, dR y]
def keysOf (b : List Rw) (e : List Ent) : List Rw := b ++ e.map (·.1)
def waysOf (b : List Rw) (e : List Ent) : List (Rw × Option (Nat × Rw × Rw)) := b.map (fun r => (r, none)) ++ e.map fun x => (x.1, some x.2)
theorem waysOf_keys (b : List Rw) (e : List Ent) : (waysOf b e).map (·.1) = keysOf b e := by
  simp [waysOf, keysOf, Function.comp_def]
theorem waysOf_snoc (b : List Rw) (e : List Ent) (x : Ent) : waysOf b (e ++ [x]) = waysOf b e ++ [(x.1, some x.2)] := by simp [waysOf]
theorem keysOf_app (b : List Rw) (e e' : List Ent) : keysOf b (e ++ e') = keysOf b e ++ e'.map (·.1) := by simp [keysOf]
theorem way_clean (n : Nat) (w : Option (Nat × Rw × Rw)) : (wayD w).clean n = true := by
  cases w with
  | none => rfl
  | some q => simp [wayD]
/-- one after another, each of earlier ones -/
inductive Ch (f : Fr) (lot : Rw) (b : List Rw) : List Ent → Prop
  | nil : Ch f lot b []
  | snoc {e : List Ent} {r : Rw} {t : Nat} {x y : Rw} : Ch f lot b e → t < f.tabs.length → x ∈ keysOf b e → y ∈ keysOf b e → isLet lot x y = true → r = ans f t x y → r ∉ keysOf b e → Ch f lot b (e ++ [(r, t, x, y)])
theorem Ch.nodup {f : Fr} {lot : Rw} {b : List Rw} (hb : b.Nodup) {e : List Ent} (h : Ch f lot b e) : (keysOf b e).Nodup := by
  induction h with
  | nil => simpa [keysOf] using hb
  | snoc h ht hx hy hl hr hn ih =>
    rw [keysOf_app]
    refine List.nodup_append.mpr ⟨ih, by simp, ?_⟩
    intro a ha c hc
    simp at hc
    subst hc
    intro z; subst z
    exact hn ha
theorem Ch.ok {f : Fr} (hf : f.Ok) {lot : Rw} {b : List Rw} {n : Nat} (hb : ∀ r ∈ b, RwOk f.size n r) {e : List Ent} (h : Ch f lot b e) : ∀ r ∈ keysOf b e, RwOk f.size n r := by
  induction h with
  | nil => simpa [keysOf] using hb
  | snoc h ht hx hy hl hr hn ih =>
    intro q hq
    rw [keysOf_app] at hq
    simp at hq
    rcases hq with hq | hq
    · exact ih q hq
    · subst hq; rw [hr]; exact ans_ok hf (ih _ hx) (ih _ hy) _
def putT (f : Fr) (b : List Rw) (x y : Rw) (e : List Ent) (t : Nat) : List Ent := if ans f t x y ∈ keysOf b e then e else e ++ [(ans f t x y, t, x, y)]
def putA (f : Fr) (lot : Rw) (b : List Rw) (e : List Ent) (x y : Rw) : List Ent := if isLet lot x y then (List.range f.tabs.length).foldl (putT f b x y) e else e
theorem putT_pre (f : Fr) (b : List Rw) (x y : Rw) : ∀ (ts : List Nat) (e : List Ent), ∃ e', ts.foldl (putT f b x y) e = e ++ e'
  | [], e => ⟨[], by simp⟩
  | t :: ts, e => by
    obtain ⟨e', h⟩ := putT_pre f b x y ts (putT f b x y e t)
    rw [List.foldl_cons, h]
    unfold putT
    split
    · exact ⟨e', rfl⟩
    · exact ⟨_, List.append_assoc _ _ _⟩
theorem putT_len (f : Fr) (b : List Rw) (x y : Rw) : ∀ (ts : List Nat) (e : List Ent), (ts.foldl (putT f b x y) e).length ≤ e.length + ts.length
  | [], e => by simp
  | t :: ts, e => by
    have h := putT_len f b x y ts (putT f b x y e t)
    have : (putT f b x y e t).length ≤ e.length + 1 := by
      unfold putT; split <;> simp
    simp only [List.foldl_cons, List.length_cons]; omega
theorem putT_ch {f : Fr} {lot : Rw} {b : List Rw} {x y : Rw} (hl : isLet lot x y = true) : ∀ (ts : List Nat) (e : List Ent), (∀ t ∈ ts, t < f.tabs.length) → Ch f lot b e → x ∈ keysOf b e → y ∈ keysOf b e → Ch f lot b (ts.foldl (putT f b x y) e) ∧ ∀ t ∈ ts, ans f t x y ∈ keysOf b (ts.foldl (putT f b x y) e)
  | [], e, _, h, _, _ => ⟨h, by simp⟩
  | t :: ts, e, ht, h, hx, hy => by
    have h1 : Ch f lot b (putT f b x y e t) := by
      unfold putT; split
      · exact h
      · rename_i n; exact .snoc h (ht t (by simp)) hx hy hl rfl n
    have pre : ∃ e', putT f b x y e t = e ++ e' := by
      unfold putT; split
      · exact ⟨[], by simp⟩
      · exact ⟨_, rfl⟩
    obtain ⟨e', pe⟩ := pre
    have sub : ∀ q, q ∈ keysOf b e → q ∈ keysOf b (putT f b x y e t) := fun q hq => by
      rw [pe, keysOf_app]; simp [hq]
    have m : ans f t x y ∈ keysOf b (putT f b x y e t) := by
      unfold putT; split
      · rename_i n; exact n
      · rw [keysOf_app]; simp
    obtain ⟨r1, r2⟩ := putT_ch hl ts (putT f b x y e t) (fun q hq => ht q (by simp [hq])) h1 (sub _ hx) (sub _ hy)
    refine ⟨r1, fun q hq => ?_⟩
    rcases List.mem_cons.mp hq with z | z
    · subst z
      obtain ⟨e2, p2⟩ := putT_pre f b x y ts (putT f b x y e q)
      rw [List.foldl_cons, p2, keysOf_app]; simp [m]
    · exact r2 q z
theorem putA_pre (f : Fr) (lot : Rw) (b : List Rw) (e : List Ent) (x y : Rw) : ∃ e', putA f lot b e x y = e ++ e' := by
  unfold putA; split
  · exact putT_pre _ _ _ _ _ _
  · exact ⟨[], by simp⟩
theorem putA_len (f : Fr) (lot : Rw) (b : List Rw) (e : List Ent) (x y : Rw) : (putA f lot b e x y).length ≤ e.length + f.tabs.length := by
  unfold putA; split
  · simpa using putT_len f b x y (List.range f.tabs.length) e
  · omega
theorem putA_ch {f : Fr} {lot : Rw} {b : List Rw} {e : List Ent} {x y : Rw} (h : Ch f lot b e) (hx : x ∈ keysOf b e) (hy : y ∈ keysOf b e) : Ch f lot b (putA f lot b e x y) := by
  unfold putA; split
  · rename_i hl; exact (putT_ch hl _ _ (fun t ht => List.mem_range.mp ht) h hx hy).1
  · exact h
/-- what two rows lead to is there -/
def Did (f : Fr) (lot : Rw) (L : List Rw) (x y : Rw) : Prop := isLet lot x y = true → ∀ t, t < f.tabs.length → ans f t x y ∈ L
theorem putA_did {f : Fr} {lot : Rw} {b : List Rw} {e : List Ent} {x y : Rw} (h : Ch f lot b e) (hx : x ∈ keysOf b e) (hy : y ∈ keysOf b e) : Did f lot (keysOf b (putA f lot b e x y)) x y := by
  intro hl t ht
  unfold putA
  rw [if_pos hl]
  exact (putT_ch hl _ _ (fun t ht => List.mem_range.mp ht) h hx hy).2 t (List.mem_range.mpr ht)
theorem Did.mono {f : Fr} {lot : Rw} {L M : List Rw} {x y : Rw} (h : Did f lot L x y) (s : ∀ r ∈ L, r ∈ M) : Did f lot M x y := fun a t b => s _ (h a t b)
/-- the rows in their order -/
def rowsOfE (b : List Rw) (e : List Ent) : List Rw := srt b ++ e.map (·.1)
theorem mem_rowsOf {b : List Rw} {e : List Ent} {r : Rw} : r ∈ rowsOfE b e ↔ r ∈ keysOf b e := by simp [rowsOfE, keysOf, mem_srt]
theorem rowsOf_app (b : List Rw) (e e' : List Ent) : rowsOfE b (e ++ e') = rowsOfE b e ++ e'.map (·.1) := by simp [rowsOfE]
theorem rowsOf_len (b : List Rw) (e : List Ent) : (rowsOfE b e).length = (keysOf b e).length := by simp [rowsOfE, keysOf, length_srt]
/-- a row of the growth: the pairs of one row with those up to it -/
def growRow (f : Fr) (lot : Rw) (b : List Rw) (y : Rw) (e : List Ent) (x : Rw) : List Ent := putA f lot b (putA f lot b e x y) y x
structure GI (f : Fr) (lot : Rw) (b : List Rw) (at_ : Nat) (e : List Ent) : Prop where
  ch : Ch f lot b e
  le : at_ ≤ (rowsOfE b e).length
  did : ∀ i j, i < at_ → j < at_ → ∀ x y, (rowsOfE b e)[i]? = some x → (rowsOfE b e)[j]? = some y → Did f lot (keysOf b e) x y
theorem growRow_fold {f : Fr} {lot : Rw} {b : List Rw} {y : Rw} : ∀ (xs : List Rw) (e : List Ent), Ch f lot b e → (∀ x ∈ xs, x ∈ keysOf b e) → y ∈ keysOf b e →
    Ch f lot b (xs.foldl (growRow f lot b y) e) ∧ (∃ e', xs.foldl (growRow f lot b y) e = e ++ e') ∧ ∀ x ∈ xs, Did f lot (keysOf b (xs.foldl (growRow f lot b y) e)) x y ∧ Did f lot (keysOf b (xs.foldl (growRow f lot b y) e)) y x
  | [], e, h, _, _ => ⟨h, ⟨[], by simp⟩, by simp⟩
  | x :: xs, e, h, hx, hy => by
    have hx0 := hx x (by simp)
    obtain ⟨e1, p1⟩ := putA_pre f lot b e x y
    have c1 := putA_ch h hx0 hy
    have d1 := putA_did h hx0 hy
    have hx1 : x ∈ keysOf b (putA f lot b e x y) := by rw [p1, keysOf_app]; simp [hx0]
    have hy1 : y ∈ keysOf b (putA f lot b e x y) := by rw [p1, keysOf_app]; simp [hy]
    obtain ⟨e2, p2⟩ := putA_pre f lot b (putA f lot b e x y) y x
    have c2 := putA_ch c1 hy1 hx1
    have d2 := putA_did c1 hy1 hx1
    have g : growRow f lot b y e x = e ++ (e1 ++ e2) := by unfold growRow; rw [p2, p1]; simp
    have sub : ∀ q, q ∈ keysOf b e → q ∈ keysOf b (growRow f lot b y e x) := fun q hq => by rw [g, keysOf_app]; simp [hq]
    have d1' : Did f lot (keysOf b (growRow f lot b y e x)) x y := d1.mono fun r hr => by
      unfold growRow; rw [p2, keysOf_app]; simp [hr]
    obtain ⟨r1, ⟨e3, p3⟩, r3⟩ := growRow_fold xs (growRow f lot b y e x) c2 (fun q hq => sub q (hx q (by simp [hq]))) (sub y hy)
    refine ⟨r1, ⟨e1 ++ e2 ++ e3, by rw [List.foldl_cons, p3, g]; simp⟩, fun q hq => ?_⟩
    rcases List.mem_cons.mp hq with z | z
    · subst z
      have s3 : ∀ r ∈ keysOf b (growRow f lot b y e q), r ∈ keysOf b ((q :: xs).foldl (growRow f lot b y) e) := fun r hr => by
        rw [List.foldl_cons, p3, keysOf_app]; simp [hr]
      exact ⟨d1'.mono s3, d2.mono s3⟩
    · exact r3 q z
theorem GI.step {f : Fr} {lot : Rw} {b : List Rw} {at_ : Nat} {e : List Ent} (h : GI f lot b at_ e) {y : Rw} (hy : (rowsOfE b e)[at_]? = some y) :
    GI f lot b (at_ + 1) (((rowsOfE b e).take (at_ + 1)).foldl (growRow f lot b y) e) := by
  have lt : at_ < (rowsOfE b e).length := (List.getElem?_eq_some_iff.mp hy).1
  have my : y ∈ keysOf b e := mem_rowsOf.mp (List.mem_of_getElem? hy)
  obtain ⟨r1, ⟨e', p⟩, r3⟩ := growRow_fold ((rowsOfE b e).take (at_ + 1)) e h.ch (fun x hx => mem_rowsOf.mp (List.mem_of_mem_take hx)) my
  have g : ∀ i, i < at_ + 1 → (rowsOfE b (((rowsOfE b e).take (at_ + 1)).foldl (growRow f lot b y) e))[i]? = (rowsOfE b e)[i]? := fun i hi => by
    rw [p, rowsOf_app, List.getElem?_append_left (by omega)]
  have mt : ∀ i x, i < at_ + 1 → (rowsOfE b e)[i]? = some x → x ∈ (rowsOfE b e).take (at_ + 1) := fun i x hi hx => by
    refine List.mem_of_getElem? (i := i) ?_
    rw [List.getElem?_take_of_lt hi]; exact hx
  refine ⟨r1, by rw [p, rowsOf_app]; simp; omega, fun i j hi hj x z hx hz => ?_⟩
  rw [g i hi] at hx
  rw [g j hj] at hz
  by_cases a : i < at_
  · by_cases c : j < at_
    · exact (h.did i j a c x z hx hz).mono fun r hr => by rw [p, keysOf_app]; simp [hr]
    · have : j = at_ := by omega
      subst this
      rw [hy] at hz
      cases hz
      exact (r3 x (mt i x hi hx)).1
  · have : i = at_ := by omega
    subst this
    rw [hy] at hx
    cases hx
    exact (r3 z (mt j z hj hz)).2
theorem GI.zero (f : Fr) (lot : Rw) (b : List Rw) : GI f lot b 0 [] := ⟨.nil, Nat.zero_le _, fun i j hi => absurd hi (by omega)⟩
/-- the whole is closed -/
theorem GI.closed {f : Fr} {lot : Rw} {b : List Rw} {e : List Ent} (h : GI f lot b (rowsOfE b e).length e) : ∀ x ∈ keysOf b e, ∀ y ∈ keysOf b e, Did f lot (keysOf b e) x y := by
  intro x hx y hy
  obtain ⟨i, hi, ei⟩ := List.mem_iff_getElem.mp (mem_rowsOf.mpr hx)
  obtain ⟨j, hj, ej⟩ := List.mem_iff_getElem.mp (mem_rowsOf.mpr hy)
  exact h.did i j hi hj x y (by rw [List.getElem?_eq_getElem hi, ei]) (by rw [List.getElem?_eq_getElem hj, ej])
theorem kv_clean (n : Nat) (w : List (Rw × Option (Nat × Rw × Rw))) : O.clean n (.dict (kvM wayD w)) = true := by
  simp only [O.clean, kvM, List.map_map, Bool.and_eq_true]
  exact ⟨cleans_map w fun p _ => clean_dR n p.1, cleans_map w fun p _ => way_clean n p.2⟩
theorem waysOf_len (b : List Rw) (e : List Ent) : (waysOf b e).length = b.length + e.length := by simp [waysOf]
/-! ### numbers of rows -/
def NP (nd : List (Rw × Nat)) (L : List Rw) : Prop := ∀ r, nd.lookup r = if r ∈ L then some (L.idxOf r) else none
theorem NP.keys {nd : List (Rw × Nat)} {L : List Rw} (h : NP nd L) (r : Rw) : r ∈ nd.map (·.1) ↔ r ∈ L := by
  have a := lookup_isSome r nd
  rw [h r] at a
  by_cases m : r ∈ L
  · rw [if_pos m] at a
    simp only [Option.isSome_some] at a
    have := of_decide_eq_true a.symm
    simp only [m, iff_true]; exact this
  · rw [if_neg m] at a
    simp only [Option.isSome_none] at a
    have := of_decide_eq_false a.symm
    simp only [m, iff_false]; exact this
theorem NP.nil : NP [] [] := fun r => by simp
theorem NP.old {nd : List (Rw × Nat)} {L : List Rw} (h : NP nd L) {r : Rw} (m : r ∈ L) : NP nd (L ++ [r]) := fun q => by
  rw [h q]
  by_cases z : q ∈ L
  · rw [if_pos z, if_pos (by simp [z]), List.idxOf_append, if_pos z]
  · have : q ≠ r := fun e => z (e ▸ m)
    rw [if_neg z, if_neg (by simp [z, this])]
theorem NP.new {nd : List (Rw × Nat)} {L : List Rw} (h : NP nd L) {r : Rw} (m : r ∉ L) : NP (nd ++ [(r, L.length)]) (L ++ [r]) := fun q => by
  rw [List.lookup_append, h q]
  by_cases z : q ∈ L
  · rw [if_pos z, if_pos (by simp [z]), List.idxOf_append, if_pos z]; rfl
  · rw [if_neg z]
    by_cases e : q = r
    · subst e
      rw [if_pos (by simp), List.idxOf_append, if_neg z]
      simp
    · have e' : (q == r) = false := by simp [e]
      rw [if_neg (by simp [z, e])]
      simp [List.lookup_cons, e']
theorem lookup_nodup {α : Type} : ∀ {w : List (Rw × α)} {k : Rw} {v : α}, (w.map (·.1)).Nodup → (k, v) ∈ w → w.lookup k = some v
  | [], k, v, _, h => by cases h
  | (q, a) :: w, k, v, n, h => by
    rw [List.map_cons, List.nodup_cons] at n
    rcases List.mem_cons.mp h with e | h
    · cases e; simp
    · have : k ≠ q := fun e => n.1 (by rw [← e]; exact List.mem_map.mpr ⟨_, h, rfl⟩)
      have e' : (k == q) = false := by simp [this]
      rw [List.lookup_cons, e']
      exact lookup_nodup n.2 h
theorem Ch.at {f : Fr} {lot : Rw} {b : List Rw} {e : List Ent} (h : Ch f lot b e) : ∀ j x, e[j]? = some x → x.2.1 < f.tabs.length ∧ x.2.2.1 ∈ keysOf b (e.take j) ∧ x.2.2.2 ∈ keysOf b (e.take j) ∧ isLet lot x.2.2.1 x.2.2.2 = true ∧ x.1 = ans f x.2.1 x.2.2.1 x.2.2.2 ∧ x.1 ∉ keysOf b (e.take j) := by
  induction h with
  | nil => intro j x hx; simp at hx
  | @snoc e r t x y h ht hx hy hl hr hn ih =>
    intro j z hz
    by_cases c : j < e.length
    · rw [List.getElem?_append_left c] at hz
      rw [List.take_append_of_le_length (by omega)]
      exact ih j z hz
    · have : j = e.length := by
        have := (List.getElem?_eq_some_iff.mp hz).1
        simp at this; omega
      subst this
      simp at hz
      subst hz
      rw [List.take_append_of_le_length (Nat.le_refl _), List.take_length]
      exact ⟨ht, hx, hy, hl, hr, hn⟩
/-- all rows in the order of their numbers -/
def allN (f : Fr) (data : List Rw) (e : List Ent) : List Rw := begins f data ++ e.map (·.1)
def stepD (L : List Rw) (x : Ent) : D := .tup [di x.2.1, di (L.idxOf x.2.2.1), di (L.idxOf x.2.2.2)]
def dedup (l : List Rw) : List Rw := l.foldl addN []
theorem dedup_mem (l : List Rw) (r : Rw) : r ∈ dedup l ↔ r ∈ l := by
  obtain ⟨e, h1, h2, h3, h4, h5⟩ := foldl_addN l []
  unfold dedup
  rw [h1, List.nil_append]
  exact ⟨h4 r, fun h => by simpa using h5 r h⟩
theorem dedup_nodup (l : List Rw) : (dedup l).Nodup := by
  obtain ⟨e, h1, h2, h3, h4, h5⟩ := foldl_addN l []
  unfold dedup
  rw [h1, List.nil_append]; exact h2
theorem get_app {S X : List O} {n : Nat} {o : O} (h : S[n]? = some o) : (S ++ X)[n]? = some o := by
  rw [List.getElem?_append_left (List.getElem?_eq_some_iff.mp h).1, h]
theorem dsetd_old {α : Type} {g : α → D} {S : List O} {n : Nat} {w : List (Rw × α)} (h : S[n]? = some (.dict (kvM g w))) {r : Rw} {a : α} (hr : w.lookup r = some a) (v : D) : dsetdD S (.ref n) (dR r) v = some (g a, S) := by
  simp [dsetdD, dget_dR g h, hr]
theorem dsetd_new {α : Type} {g : α → D} {S : List O} {n : Nat} {w : List (Rw × α)} (h : S[n]? = some (.dict (kvM g w))) {r : Rw} (hr : w.lookup r = none) (hl : w.length ≤ 1000000) (a : α) : dsetdD S (.ref n) (dR r) (g a) = some (g a, S.set n (.dict (kvM g (w ++ [(r, a)])))) := by
  simp [dsetdD, dget_dR g h, hr, dput_new g h hr hl a]
theorem isDx_of {S : List O} {n : Nat} {kvs : List (D × D)} (h : S[n]? = some (.dict kvs)) : isDx S (.ref n) = true := by simp [isDx, h]
end Rx

set_option Elab.async false
set_option autoImplicit false
set_option linter.all false
set_option maxRecDepth 100000
/-! W6: any values as papers: plain law. -/
namespace Rx
open PySem L2 Pl
def natD : D → Nat
  | .int i => i.toNat
  | _ => 0
theorem below_nat {n : Int} {d : D} (h : below n d = true) : d = di (natD d) ∧ (natD d : Int) < n := by
  cases d <;> simp only [below, Bool.and_eq_true, decide_eq_true_eq, Bool.false_eq_true] at h
  rename_i i
  simp only [natD]
  refine ⟨?_, by omega⟩
  rw [di_def]; congr 1; omega
/-! ### steps -/
def stepGet (T many : Nat) : D → Option (Nat × Nat × Nat)
  | .tup [a, b, c] => if below T a && (below many b && below many c) then some (natD a, natD b, natD c) else none
  | _ => none
def rowAt (rows : List Rw) (i : Nat) : Rw := rows.getD i []
def wayGo (f : Fr) (lot : Rw) : List Rw → List D → Option (List Rw)
  | rows, [] => some rows
  | rows, d :: l => match stepGet f.tabs.length rows.length d with
    | some (a, b, c) => if isLet lot (rowAt rows b) (rowAt rows c) then wayGo f lot (rows ++ [ans f a (rowAt rows b) (rowAt rows c)]) l else none
    | none => none
def endsGo (rows : List Rw) : List D → List Rw → Bool
  | [], [] => true
  | d :: l, w :: W => (below rows.length d && decide (rowAt rows (natD d) = w)) && endsGo rows l W
  | _, _ => false
def isWayP (f : Fr) (lot : Rw) (data W : List Rw) (s e : D) : Bool := match s, e with
  | .tup s, .tup e => decide (e.length = f.regs) && (match wayGo f lot (begins f data) s with
    | some rows => endsGo rows e W
    | none => false)
  | _, _ => false
/-! ### rows -/
def rowGet (s n : Nat) : D → Option Rw
  | .tup l => if decide (l.length = n) && l.all (below s) then some (l.map natD) else none
  | _ => none
def rowsGet (s n : Nat) : List D → Option (List Rw)
  | [] => some []
  | d :: l => match rowGet s n d, rowsGet s n l with
    | some r, some R => some (r :: R)
    | _, _ => none
def closedB (f : Fr) (lot : Rw) (R : List Rw) : Bool := R.all fun x => R.all fun y => !isLet lot x y || (List.range f.tabs.length).all fun t => decide (ans f t x y ∈ R)
def ascB : List Rw → Bool
  | [] => true
  | x :: l => (l.all fun y => decide (x < y)) && ascB l
def lotOk (f : Fr) (lot : Rw) (data W : List Rw) : D → Bool
  | .tup l => match rowsGet f.size data.length l with
    | some R => ascB R && ((begins f data).all (fun r => decide (r ∈ R)) && (closedB f lot R && !(W.all fun r => decide (r ∈ R))))
    | none => false
  | _ => false
def holds (f : Fr) (lot : Rw) (data W : List Rw) : D → Bool
  | .tup [.str x, s, e] => decide (x = Str.ofString "way") && isWayP f lot data W s e
  | .tup [.str x, v] => decide (x = Str.ofString "lot") && lotOk f lot data W v
  | _ => false
theorem ascB_iff : ∀ {l : List Rw}, ascB l = true ↔ Asc l
  | [] => by simp [ascB, Asc]
  | x :: l => by
    simp only [ascB, Asc, List.pairwise_cons, Bool.and_eq_true, List.all_eq_true, decide_eq_true_eq, ascB_iff (l := l)]
theorem rowGet_some {s n : Nat} {d : D} {r : Rw} (h : rowGet s n d = some r) : d = dR r ∧ RwOk s n r := by
  unfold rowGet at h
  split at h
  · rename_i l
    split at h
    · rename_i c
      simp only [Bool.and_eq_true, decide_eq_true_eq, List.all_eq_true] at c
      simp only [Option.some.injEq] at h
      subst h
      refine ⟨?_, by simp [c.1], fun x hx => ?_⟩
      · rw [dR_def, List.map_map]
        congr 1
        have : l.map (di ∘ natD) = l.map id := List.map_congr_left fun d hd => (below_nat (c.2 d hd)).1.symm
        rw [this, List.map_id]
      · obtain ⟨d, hd, rfl⟩ := List.mem_map.mp hx
        have := (below_nat (c.2 d hd)).2
        omega
    · cases h
  · cases h
theorem natD_di (n : Nat) : natD (di n) = n := by simp [natD]
theorem rowGet_dR {s n : Nat} {r : Rw} (h : RwOk s n r) : rowGet s n (dR r) = some r := by
  have a : (r.map di).all (below s) = true := by
    simp only [List.all_map, List.all_eq_true, Function.comp]
    intro x hx
    rw [below_di]; simpa using h.2 x hx
  have b : (r.map di).map natD = r := by
    rw [List.map_map]
    have : r.map (natD ∘ di) = r.map id := List.map_congr_left fun x _ => natD_di x
    rw [this, List.map_id]
  simp [dR, rowGet, h.1, a, b]
theorem rowsGet_some {s n : Nat} : ∀ {l : List D} {R : List Rw}, rowsGet s n l = some R → l = R.map dR ∧ ∀ r ∈ R, RwOk s n r
  | [], R, h => by
    simp only [rowsGet, Option.some.injEq] at h
    subst h; simp
  | d :: l, R, h => by
    rw [rowsGet] at h
    split at h
    · rename_i r R' h1 h2
      simp only [Option.some.injEq] at h
      subst h
      obtain ⟨a, b⟩ := rowGet_some h1
      obtain ⟨c, e⟩ := rowsGet_some h2
      refine ⟨by rw [List.map_cons, ← a, ← c], fun q hq => ?_⟩
      rcases List.mem_cons.mp hq with z | z
      · subst z; exact b
      · exact e q z
    · cases h
theorem rowsGet_dR {s n : Nat} : ∀ {R : List Rw}, (∀ r ∈ R, RwOk s n r) → rowsGet s n (R.map dR) = some R
  | [], _ => rfl
  | r :: R, h => by
    rw [List.map_cons, rowsGet, rowGet_dR (h r (by simp)), rowsGet_dR fun q hq => h q (by simp [hq])]
/-- the looks, one behind another -/
theorem rowsGet_none {s n : Nat} : ∀ {l : List D}, rowsGet s n l = none → ∃ d ∈ l, rowGet s n d = none
  | [], h => by cases h
  | d :: l, h => by
    rw [rowsGet] at h
    cases e : rowGet s n d with
    | none => exact ⟨d, by simp, e⟩
    | some r =>
      cases e2 : rowsGet s n l with
      | none =>
        obtain ⟨q, hq, k⟩ := rowsGet_none e2
        exact ⟨q, by simp [hq], k⟩
      | some R => rw [e, e2] at h; cases h
theorem rowsGet_none_of {s n : Nat} {l : List D} {d : D} (hd : d ∈ l) (h : rowGet s n d = none) : rowsGet s n l = none := by
  cases e : rowsGet s n l with
  | none => rfl
  | some R =>
    obtain ⟨a, b⟩ := rowsGet_some e
    rw [a] at hd
    obtain ⟨r, hr, rfl⟩ := List.mem_map.mp hd
    rw [rowGet_dR (b r hr)] at h; cases h
theorem rowGet_iff {s n : Nat} {d : D} : (rowGet s n d).isSome = true ↔ ∃ l, d = .tup l ∧ l.length = n ∧ ∀ x ∈ l, below s x = true := by
  constructor
  · intro h
    unfold rowGet at h
    split at h
    · rename_i l
      split at h
      · rename_i c
        simp only [Bool.and_eq_true, decide_eq_true_eq, List.all_eq_true] at c
        exact ⟨l, rfl, c.1, c.2⟩
      · cases h
    · cases h
  · rintro ⟨l, rfl, a, b⟩
    have : l.all (below s) = true := by simpa using b
    simp [rowGet, a, this]
theorem closedB_iff {f : Fr} {lot : Rw} {R : List Rw} : closedB f lot R = true ↔ ∀ x ∈ R, ∀ y ∈ R, Did f lot R x y := by
  simp only [closedB, List.all_eq_true, Bool.or_eq_true, Bool.not_eq_true', List.mem_range, decide_eq_true_eq, Did]
  constructor
  · intro h x hx y hy il t ht
    rcases h x hx y hy with z | z
    · rw [il] at z; cases z
    · exact z t ht
  · intro h x hx y hy
    by_cases il : isLet lot x y = true
    · exact .inr fun t ht => h x hx y hy il t ht
    · exact .inl (by simpa using il)
/-- told rows are a paper -/
theorem lot_holds {f : Fr} {lot : Rw} {data W R : List Rw} (h1 : Asc R) (h2 : ∀ r ∈ R, RwOk f.size data.length r) (h3 : ∀ r ∈ begins f data, r ∈ R) (h4 : ∀ x ∈ R, ∀ y ∈ R, Did f lot R x y) (h5 : ¬ ∀ r ∈ W, r ∈ R) : holds f lot data W (.tup [.str (Str.ofString "lot"), .tup (R.map dR)]) = true := by
  have e3 : (begins f data).all (fun r => decide (r ∈ R)) = true := by simpa using h3
  have e5 : W.all (fun r => decide (r ∈ R)) = false := by
    rw [Bool.eq_false_iff]; intro z; exact h5 (by simpa using z)
  simp only [holds, lotOk, rowsGet_dR h2, ascB_iff.mpr h1, e3, closedB_iff.mpr h4, e5, decide_true, Bool.not_false, Bool.and_self]
theorem rowAt_get {rows : List Rw} {i : Nat} {r : Rw} (h : rows[i]? = some r) : rowAt rows i = r := by
  simp [rowAt, h]
theorem stepGet_di {T many a b c : Nat} (h1 : a < T) (h2 : b < many) (h3 : c < many) : stepGet T many (.tup [di a, di b, di c]) = some (a, b, c) := by
  simp [stepGet, below_di, h1, h2, h3, natD_di]
theorem wayGo_app {f : Fr} {lot : Rw} : ∀ (a b : List D) (rows rows' : List Rw), wayGo f lot rows a = some rows' → wayGo f lot rows (a ++ b) = wayGo f lot rows' b
  | [], b, rows, rows', h => by
    simp only [wayGo, Option.some.injEq] at h
    subst h; rfl
  | d :: a, b, rows, rows', h => by
    rw [wayGo] at h
    rw [List.cons_append, wayGo]
    split at h
    · rename_i x y z e
      split at h
      · rename_i il
        show (if isLet lot (rowAt rows y) (rowAt rows z) = true then _ else _) = _
        rw [if_pos il]
        exact wayGo_app a b _ _ h
      · cases h
    · cases h
theorem idx_get {L : List Rw} {r : Rw} (h : r ∈ L) : L[L.idxOf r]? = some r := by
  have := List.idxOf_lt_length_of_mem h
  rw [List.getElem?_eq_getElem this, List.getElem_idxOf]
theorem way_steps {f : Fr} {lot : Rw} {data : List Rw} {e : List Ent} (h : Ch f lot (dedup (begins f data)) e) : ∀ j, j ≤ e.length → wayGo f lot (begins f data) ((e.take j).map (stepD (allN f data e))) = some (allN f data (e.take j))
  | 0, _ => by simp [wayGo, allN]
  | j + 1, hj => by
    have ih := way_steps h j (by omega)
    obtain ⟨x, hx⟩ : ∃ x, e[j]? = some x := ⟨_, List.getElem?_eq_getElem (by omega)⟩
    obtain ⟨h1, h2, h3, h4, h5, h6⟩ := h.at j x hx
    have tk : e.take (j + 1) = e.take j ++ [x] := by rw [List.take_succ, hx]; rfl
    have kin : ∀ r, r ∈ keysOf (dedup (begins f data)) (e.take j) ↔ r ∈ allN f data (e.take j) := fun r => by simp [keysOf, allN, dedup_mem]
    have m2 := (kin _).mp h2
    have m3 := (kin _).mp h3
    have pre : ∃ q, allN f data e = allN f data (e.take j) ++ q := ⟨(e.drop j).map (·.1), by
      simp only [allN]
      rw [List.append_assoc, ← List.map_append, List.take_append_drop]⟩
    obtain ⟨q, hq⟩ := pre
    have i2 : (allN f data e).idxOf x.2.2.1 = (allN f data (e.take j)).idxOf x.2.2.1 := by rw [hq, List.idxOf_append, if_pos m2]
    have i3 : (allN f data e).idxOf x.2.2.2 = (allN f data (e.take j)).idxOf x.2.2.2 := by rw [hq, List.idxOf_append, if_pos m3]
    rw [tk, List.map_append, wayGo_app _ _ _ _ ih]
    simp only [List.map_cons, List.map_nil, wayGo, stepD, i2, i3]
    rw [stepGet_di h1 (List.idxOf_lt_length_of_mem m2) (List.idxOf_lt_length_of_mem m3)]
    simp only [rowAt_get (idx_get m2), rowAt_get (idx_get m3), h4, if_true, ← h5]
    simp [allN]
theorem ends_ok {rows : List Rw} : ∀ {W : List Rw}, (∀ r ∈ W, r ∈ rows) → endsGo rows (W.map fun r => di (rows.idxOf r)) W = true
  | [], _ => rfl
  | r :: W, h => by
    have m := h r (by simp)
    have b : below (rows.length : Nat) (di (rows.idxOf r)) = true := by
      rw [below_di]; simpa using List.idxOf_lt_length_of_mem m
    simp only [List.map_cons, endsGo, b, natD_di, rowAt_get (idx_get m), decide_true, Bool.and_self, Bool.true_and]
    exact ends_ok fun q hq => h q (by simp [hq])
theorem way_holds {f : Fr} {lot : Rw} {data W : List Rw} {e : List Ent} (h : Ch f lot (dedup (begins f data)) e) (hw : W.length = f.regs) (hm : ∀ r ∈ W, r ∈ allN f data e) : holds f lot data W (.tup [.str (Str.ofString "way"), .tup (e.map (stepD (allN f data e))), .tup (W.map fun r => di ((allN f data e).idxOf r))]) = true := by
  have s := way_steps h e.length (Nat.le_refl _)
  rw [List.take_length] at s
  simp only [holds, isWayP, s, List.length_map, hw, decide_true, Bool.true_and]
  exact ends_ok hm

def stepsOk (T many : Nat) : Nat → List D → Bool
  | _, [] => true
  | n, d :: l => (stepGet T (many + n) d).isSome && stepsOk T many (n + 1) l
theorem stepGet_not {T many : Nat} {d : D} (h : isT d = false) : stepGet T many d = none := by
  cases d <;> first | rfl | cases h
theorem stepGet_len {T many : Nat} {l : List D} (h : l.length ≠ 3) : stepGet T many (.tup l) = none := by
  unfold stepGet
  split
  · rename_i a b c e
    cases e; simp at h
  · rfl
theorem steps_of_way {f : Fr} {lot : Rw} {many : Nat} : ∀ (l : List D) (n : Nat) (rows R : List Rw), rows.length = many + n → wayGo f lot rows l = some R → stepsOk f.tabs.length many n l = true
  | [], n, rows, R, _, _ => rfl
  | d :: l, n, rows, R, hl, h => by
    rw [wayGo] at h
    rw [stepsOk]
    split at h
    · rename_i x y z e
      split at h
      · rw [hl] at e
        rw [e, steps_of_way l (n + 1) _ _ (by simp; omega) h]
        rfl
      · cases h
    · cases h
theorem stepsOk_drop {T many : Nat} {s : List D} {n : Nat} {d : D} (h : s[n]? = some d) : stepsOk T many n (s.drop n) = ((stepGet T (many + n) d).isSome && stepsOk T many (n + 1) (s.drop (n + 1))) := by
  have lt := (List.getElem?_eq_some_iff.mp h).1
  rw [List.drop_eq_getElem_cons lt, stepsOk, (List.getElem?_eq_some_iff.mp h).2]
theorem enumL_id : ∀ (a : List D) (n : Nat), enumL n a = (a.zipIdx n).map fun p => .tup [di p.2, p.1]
  | [], _ => by simp [enumL]
  | x :: a, n => by simp [enumL, enumL_id a (n + 1), di]
theorem zipIdx_at {α : Type} {s : List α} {a b : List (α × Nat)} {x : α × Nat} (h : s.zipIdx = a ++ x :: b) : x.2 = a.length ∧ s[a.length]? = some x.1 := by
  have h1 : s.zipIdx[a.length]? = some x := by rw [h]; simp
  rw [List.getElem?_zipIdx] at h1
  cases e : s[a.length]? with
  | none => rw [e] at h1; cases h1
  | some y =>
    rw [e] at h1
    simp at h1
    subst h1
    exact ⟨rfl, rfl⟩
theorem asc_all : ∀ R : List Rw, ((List.range (R.length - 1)).all fun i => decide (rowAt R i < rowAt R (i + 1))) = ascB R
  | [] => rfl
  | [x] => rfl
  | x :: y :: l => by
    have ih := asc_all (y :: l)
    have e : (x :: y :: l).length - 1 = (y :: l).length - 1 + 1 := by simp
    rw [e, List.range_succ_eq_map, List.all_cons, List.all_map]
    have e2 : ((List.range ((y :: l).length - 1)).all ((fun i => decide (rowAt (x :: y :: l) i < rowAt (x :: y :: l) (i + 1))) ∘ Nat.succ)) = ascB (y :: l) := by
      rw [← ih]; rfl
    rw [e2]
    show (decide (x < y) && ascB (y :: l)) = (((y :: l).all fun z => decide (x < z)) && ascB (y :: l))
    rw [Bool.eq_iff_iff]
    simp only [Bool.and_eq_true, decide_eq_true_eq, List.all_cons, List.all_eq_true]
    constructor
    · rintro ⟨h, k⟩
      refine ⟨⟨h, fun z hz => ?_⟩, k⟩
      have := List.pairwise_cons.mp (ascB_iff.mp k)
      exact lt_tr h (this.1 z hz)
    · rintro ⟨⟨h, _⟩, k⟩
      exact ⟨h, k⟩
theorem stepGet_some {T many : Nat} {d : D} {a b c : Nat} (h : stepGet T many d = some (a, b, c)) : d = .tup [di a, di b, di c] ∧ a < T ∧ b < many ∧ c < many := by
  unfold stepGet at h
  split at h
  · rename_i u v w
    split at h
    · rename_i q
      simp only [Bool.and_eq_true] at q
      obtain ⟨q1, q2, q3⟩ := q
      simp only [Option.some.injEq, Prod.mk.injEq] at h
      obtain ⟨rfl, rfl, rfl⟩ := h
      have h1 := below_nat q1
      have h2 := below_nat q2
      have h3 := below_nat q3
      refine ⟨by rw [← h1.1, ← h2.1, ← h3.1], by omega, by omega, by omega⟩
    · cases h
  · cases h
theorem stepsOk_at {T many : Nat} : ∀ {s : List D} {n : Nat}, stepsOk T many n s = true → ∀ j d, s[j]? = some d → (stepGet T (many + n + j) d).isSome = true
  | [], n, h, j, d, hd => by simp at hd
  | x :: s, n, h, j, d, hd => by
    simp only [stepsOk, Bool.and_eq_true] at h
    cases j with
    | zero =>
      simp at hd; subst hd; exact h.1
    | succ j =>
      have := stepsOk_at h.2 j d (by simpa using hd)
      rw [show many + n + (j + 1) = many + (n + 1) + j by omega]; exact this
theorem zip2L_l {β : Type} (g : β → D) : ∀ (a : List D) (b : List β), zip2L a (b.map g) = (a.zip b).map fun p => .tup [p.1, g p.2]
  | [], _ => by simp [zip2L]
  | _ :: _, [] => by simp [zip2L]
  | x :: a, y :: b => by simp [zip2L, zip2L_l g a b]
theorem endsGo_zip (rows : List Rw) : ∀ (e : List D) (W : List Rw), e.length = W.length → ((e.zip W).all fun p => below rows.length p.1 && decide (rowAt rows (natD p.1) = p.2)) = endsGo rows e W
  | [], [], _ => rfl
  | [], _ :: _, h => by simp at h
  | _ :: _, [], h => by simp at h
  | d :: e, w :: W, h => by
    rw [List.zip_cons_cons, List.all_cons, endsGo, endsGo_zip rows e W (by simpa using h)]
theorem rowAt_lt {rows : List Rw} {i : Nat} (h : i < rows.length) : rows[i]? = some (rowAt rows i) ∧ rowAt rows i ∈ rows := by
  have e : rowAt rows i = rows[i] := by simp [rowAt, h]
  rw [e]
  exact ⟨List.getElem?_eq_getElem h, List.getElem_mem h⟩
theorem wayGo_cons {f : Fr} {lot : Rw} {rows : List Rw} {d : D} {l : List D} {a b c : Nat} (h : stepGet f.tabs.length rows.length d = some (a, b, c)) : wayGo f lot rows (d :: l) = if isLet lot (rowAt rows b) (rowAt rows c) then wayGo f lot (rows ++ [ans f a (rowAt rows b) (rowAt rows c)]) l else none := by
  rw [wayGo, h]
theorem wayGo_len {f : Fr} {lot : Rw} : ∀ {l : List D} {rows R : List Rw}, wayGo f lot rows l = some R → R.length = rows.length + l.length
  | [], rows, R, h => by simp only [wayGo, Option.some.injEq] at h; subst h; rfl
  | d :: l, rows, R, h => by
    rw [wayGo] at h
    split at h
    · split at h
      · have := wayGo_len h
        simp at this ⊢; omega
      · cases h
    · cases h
theorem forL_preD {src : Src} {turn : D → Rx.Env → List O → R Fl} {P : Fl → List O → Prop} (xs : List D) (I : List D → Rx.Env → List O → Prop)
    (still : ∀ a σ S, I a σ S → src.still S = true)
    (step : ∀ a x b σ S, xs = a ++ x :: b → I a σ S → wp (turn x σ S) fun f S' => match f with
      | .nx σ' => I (a ++ [x]) σ' S'
      | .ct σ' => I (a ++ [x]) σ' S'
      | .bk σ' => P (.nx σ') S'
      | .ret r => P (.ret r) S')
    (done : ∀ σ S, I xs σ S → P (.nx σ) S) {σ : Rx.Env} {S : List O} (h : I [] σ S) : wp (forL src turn xs σ S) P := by
  have := forL_pre (enc := fun d => d) (turn := turn) xs I still step done h
  rwa [List.map_id'] at this
theorem compL_mapD {src : Src} {turn : D → List O → R (Option D)} {g : D → D} {S : List O} (st : src.still S = true) (xs : List D) (h : ∀ x ∈ xs, turn x S = .ok (some (g x)) S) : compL src turn xs S = .ok (xs.map g) S := by
  have := compL_map (enc := fun d => d) (g := g) (turn := turn) st xs h
  rwa [List.map_id'] at this
theorem compL_filtD {src : Src} {turn : D → List O → R (Option D)} {p : D → Bool} {S : List O} (st : src.still S = true) (xs : List D) (h : ∀ x ∈ xs, turn x S = .ok (if p x then some x else none) S) : compL src turn xs S = .ok (xs.filter p) S := by
  have := compL_filt (enc := fun d => d) (g := fun x => if p x then some x else none) (turn := turn) st xs h
  rw [List.map_id'] at this
  rw [this]
  have e : ∀ xs : List D, xs.filterMap (fun x => if p x then some x else none) = xs.filter p := fun xs => by
    induction xs with
    | nil => rfl
    | cons x xs ih =>
      rw [List.filterMap_cons, List.filter_cons, ih]
      cases p x <;> rfl
  rw [e]
def items : D → List D
  | .tup q => q
  | _ => []
def okA (n : Nat) (l : List D) : Bool := l.all fun x => isT x && decide ((items x).length = n)
def okBl (s : Nat) (l : List D) : Bool := (l.flatMap items).all (below s)
theorem rowGet_items {s n : Nat} {d : D} : (rowGet s n d).isSome = (isT d && (decide ((items d).length = n) && (items d).all (below s))) := by
  cases d <;> try rfl
  rename_i l
  simp only [rowGet, isT, items, Bool.true_and]
  by_cases h : l.length = n <;> cases hb : l.all (below s) <;> simp [h, hb]
theorem rowsGet_isSome {s n : Nat} : ∀ {l : List D}, (rowsGet s n l).isSome = (okA n l && okBl s l)
  | [] => rfl
  | d :: l => by
    have ih := rowsGet_isSome (s := s) (n := n) (l := l)
    have h := rowGet_items (s := s) (n := n) (d := d)
    have e : (rowsGet s n (d :: l)).isSome = ((rowGet s n d).isSome && (rowsGet s n l).isSome) := by
      rw [rowsGet]
      cases rowGet s n d <;> cases rowsGet s n l <;> rfl
    rw [e, ih, h]
    simp only [okA, okBl, List.all_cons, List.flatMap_cons, List.all_append]
    cases isT d <;> cases decide ((items d).length = n) <;> cases (items d).all (below s) <;> simp
theorem compLL_mapD {src : Src} {turn : D → List O → R (List D)} {g : D → List D} {S : List O} (st : src.still S = true) (xs : List D) (h : ∀ x ∈ xs, turn x S = .ok (g x) S) : compLL src turn xs S = .ok (xs.flatMap g) S := by
  have := compLL_map (enc := fun d => d) (g := g) (turn := turn) st xs h
  rwa [List.map_id'] at this
end Rx

set_option Elab.async false
set_option autoImplicit false
set_option linter.all false
set_option maxRecDepth 100000
/-! W7: closings; lists of rows compared. -/
namespace Rx
open PySem L2 Pl
theorem toPs_dR (l : List Rw) : toPs (l.map dR) = some (l.map pR) := toPs_map l fun x _ => toP_dR x
theorem shp_rows (t : Bool) (l : List Rw) : shp (if t then .tuple (l.map pR) else .list (l.map pR)) = true := by
  have c : PyData.canLayAll0 (l.map pR) = true := canLayAll_map l fun x _ => canLay_pR x
  have d : PyData.depthAll (l.map pR) ≤ 1 := depthAll_map l fun x _ => depth_pR x
  cases t
  · simp only [shp, SeqAt.shaped, PyData.canLay0, PyData.depth, c, Bool.true_and, decide_eq_true_eq, Bool.false_eq_true, if_false]; omega
  · simp only [shp, SeqAt.shaped, PyData.canLay0, PyData.depth, c, Bool.true_and, decide_eq_true_eq, if_true]; omega
theorem eqvAll_dR (a b : List Rw) : PyData.eqvAll (a.map pR) (b.map pR) = decide (a = b) :=
  (eqvAll_map (g := pR) (fun x y => eqv_pR x y) a b).trans (decide_eq_decide.mpr Iff.rfl)
theorem eqD_rowsT (S : List O) (a b : List Rw) : eqD S (.tup (a.map dR)) (.tup (b.map dR)) = some (decide (a = b)) := by
  have e : ∀ l : List Rw, datOf S (.tup (l.map dR)) = some (.tuple (l.map pR)) := fun l => by
    simp only [datOf, D.toP, toPs_dR, Option.map_some]
  have s := fun l => shp_rows true l
  simp only [if_true] at s
  unfold eqD
  simp only [e, s, Bool.and_self, if_true, PyData.eqv, eqvAll_dR]
theorem eqD_rowsL (S : List O) (a b : List Rw) : eqD S (.lst (a.map dR)) (.lst (b.map dR)) = some (decide (a = b)) := by
  have e : ∀ l : List Rw, datOf S (.lst (l.map dR)) = some (.list (l.map pR)) := fun l => by
    simp only [datOf, D.toP, toPs_dR, Option.map_some]
  have s := fun l => shp_rows false l
  simp only [Bool.false_eq_true, if_false] at s
  unfold eqD
  simp only [e, s, Bool.and_self, if_true, PyData.eqv, eqvAll_dR]
theorem eqD_nilL (S : List O) {m : Nat} {l : List D} (h : ∀ d ∈ l, d.ok m = true) (k : ∀ d ∈ l, d.dep ≤ 50) : eqD S (.lst l) (.lst []) = some l.isEmpty := by
  have o : oks m l = true := oks_iff.mpr h
  obtain ⟨ps, e, c, d⟩ := oks_toP l o
  have d2 : deps l ≤ 50 := deps_le.mpr k
  have e1 : datOf S (.lst l) = some (.list ps) := by simp only [datOf, D.toP, e, Option.map_some]
  have e2 : datOf S (.lst []) = some (.list []) := by simp only [datOf, D.toP, toPs, Option.map_some]
  have s1 : shp (.list ps) = true := by
    have c' : (PyData.list ps).canLay0 = true := by simpa only [PyData.canLay0] using c
    have h' : (PyData.list ps).depth ≤ 64 := by simp only [PyData.depth]; omega
    simp only [shp, SeqAt.shaped, c', h', decide_true, Bool.and_self]
  have s2 : shp (.list []) = true := by
    simp [shp, SeqAt.shaped, PyData.canLay0, PyData.canLayAll0, PyData.depth, PyData.depthAll]
  unfold eqD
  simp only [e1, e2, s1, s2, Bool.and_self, if_true, PyData.eqv]
  cases l with
  | nil =>
    simp only [toPs, Option.some.injEq] at e
    subst e; simp [PyData.eqvAll]
  | cons x l =>
    cases ps with
    | nil =>
      have : (toPs (x :: l)).isSome := by rw [e]; rfl
      simp only [toPs] at e
      split at e
      · cases e
      · cases e
    | cons p ps => simp [PyData.eqvAll]
theorem eqD_tupnil (S : List O) {m : Nat} {l : List D} (h : ∀ d ∈ l, d.ok m = true) (k : ∀ d ∈ l, d.dep ≤ 50) : eqD S (.tup l) (.tup []) = some l.isEmpty := by
  have o : oks m l = true := oks_iff.mpr h
  obtain ⟨ps, e, c, d⟩ := oks_toP l o
  have d2 : deps l ≤ 50 := deps_le.mpr k
  have e1 : datOf S (.tup l) = some (.tuple ps) := by simp only [datOf, D.toP, e, Option.map_some]
  have e2 : datOf S (.tup []) = some (.tuple []) := by simp only [datOf, D.toP, toPs, Option.map_some]
  have s1 : shp (.tuple ps) = true := by
    have c' : (PyData.tuple ps).canLay0 = true := by simpa only [PyData.canLay0] using c
    have h' : (PyData.tuple ps).depth ≤ 64 := by simp only [PyData.depth]; omega
    simp only [shp, SeqAt.shaped, c', h', decide_true, Bool.and_self]
  have s2 : shp (.tuple []) = true := by
    simp [shp, SeqAt.shaped, PyData.canLay0, PyData.canLayAll0, PyData.depth, PyData.depthAll]
  unfold eqD
  simp only [e1, e2, s1, s2, Bool.and_self, if_true, PyData.eqv]
  cases l with
  | nil =>
    simp only [toPs, Option.some.injEq] at e
    subst e; simp [PyData.eqvAll]
  | cons x l =>
    cases ps with
    | nil =>
      simp only [toPs] at e
      split at e
      · cases e
      · cases e
    | cons p ps => simp [PyData.eqvAll]
/-! ### closings -/
def tabF (f : Fr) (lot x y : Rw) (F : List Rw) : List Rw := (if isLet lot x y then anss f x y else []).foldl addN F
def otherF (f : Fr) (lot : Rw) (f0 : List Rw) (x : Rw) (F : List Rw) : List Rw := f0.foldl (fun F y => tabF f lot x y F) F
theorem pass_eq (f : Fr) (lot : Rw) (F : List Rw) : F.foldl (fun G x => otherF f lot F x G) F = pass (isLet lot) (anss f) F := pass_loops F F
theorem addN_pre (c F : List Rw) : ∃ e, c.foldl addN F = F ++ e := (foldl_addN c F).imp fun _ h => h.1
theorem fold_pre {α : Type} {g : List Rw → α → List Rw} (h : ∀ F x, ∃ e, g F x = F ++ e) : ∀ (l : List α) (F : List Rw), ∃ e, l.foldl g F = F ++ e
  | [], F => ⟨[], by simp⟩
  | x :: l, F => by
    obtain ⟨e, p⟩ := h F x
    obtain ⟨e2, p2⟩ := fold_pre h l (g F x)
    exact ⟨e ++ e2, by rw [List.foldl_cons, p2, p]; simp⟩
theorem tabF_pre (f : Fr) (lot x y : Rw) (F : List Rw) : ∃ e, tabF f lot x y F = F ++ e := addN_pre _ _
theorem otherF_pre (f : Fr) (lot : Rw) (f0 : List Rw) (x : Rw) (F : List Rw) : ∃ e, otherF f lot f0 x F = F ++ e := fold_pre (fun F y => tabF_pre f lot x y F) f0 F
theorem cand_ok {f : Fr} (hf : f.Ok) {lot : Rw} {n : Nat} {F : List Rw} (h : ∀ r ∈ F, RwOk f.size n r) : ∀ r ∈ cand (isLet lot) (anss f) F F, RwOk f.size n r := by
  intro r hr
  obtain ⟨a, ha, b, hb, _, m⟩ := mem_cand.mp hr
  obtain ⟨t, _, rfl⟩ := List.mem_map.mp m
  exact ans_ok hf (h a ha) (h b hb) t
def Ex (f : Fr) (n : Nat) (inp H : List Rw) : Prop := ∃ e, H = inp ++ e ∧ e.Nodup ∧ ∀ r ∈ e, RwOk f.size n r
theorem Ex.add {f : Fr} {n : Nat} {inp H : List Rw} (h : Ex f n inp H) {r : Rw} (hr : RwOk f.size n r) : Ex f n inp (addN H r) := by
  obtain ⟨e, p, q, o⟩ := h
  unfold addN
  split
  · exact ⟨e, p, q, o⟩
  · rename_i m
    refine ⟨e ++ [r], by rw [p]; simp, List.nodup_append.mpr ⟨q, by simp, fun a ha b hb z => ?_⟩, fun x hx => ?_⟩
    · simp at hb; subst hb; subst z
      exact m (by rw [p]; simp [ha])
    · rcases List.mem_append.mp hx with z | z
      · exact o x z
      · simp at z; subst z; exact hr
theorem Ex.len {f : Fr} {n : Nat} {inp H : List Rw} (h : Ex f n inp H) : H.length ≤ inp.length + f.size ^ n := by
  obtain ⟨e, p, q, o⟩ := h
  have := rows_len q o
  rw [p]; simp; omega
/-- what a closing is of -/
structure ClI (f : Fr) (lot : Rw) (n : Nat) (inp F : List Rw) : Prop where
  ex : ∃ e, F = inp ++ e ∧ e.Nodup ∧ ∀ r ∈ e, RwOk f.size n r
  same : Closed (isLet lot) (anss f) inp → F = inp
theorem ClI.refl (f : Fr) (lot : Rw) (n : Nat) (inp : List Rw) : ClI f lot n inp inp := ⟨⟨[], by simp, by simp, by simp⟩, fun _ => rfl⟩
theorem ClI.ok {f : Fr} {lot : Rw} {n : Nat} {inp F : List Rw} (h : ClI f lot n inp F) (hi : ∀ r ∈ inp, RwOk f.size n r) : ∀ r ∈ F, RwOk f.size n r := by
  obtain ⟨e, p, _, o⟩ := h.ex
  intro r hr
  rw [p] at hr
  rcases List.mem_append.mp hr with z | z
  · exact hi r z
  · exact o r z
theorem ClI.len {f : Fr} {lot : Rw} {n : Nat} {inp F : List Rw} (h : ClI f lot n inp F) : F.length ≤ inp.length + f.size ^ n := by
  obtain ⟨e, p, q, o⟩ := h.ex
  have := rows_len q o
  rw [p]; simp; omega
theorem ClI.step {f : Fr} (hf : f.Ok) {lot : Rw} {n : Nat} {inp F : List Rw} (h : ClI f lot n inp F) (hi : ∀ r ∈ inp, RwOk f.size n r) : ClI f lot n inp (pass (isLet lot) (anss f) F) := by
  obtain ⟨e, p, q, o⟩ := h.ex
  obtain ⟨e2, p2, q2, n2, c2, _⟩ := foldl_addN (cand (isLet lot) (anss f) F F) F
  refine ⟨⟨e ++ e2, ?_, ?_, fun r hr => ?_⟩, fun c => ?_⟩
  · unfold pass; rw [p2]; rw [p]; simp
  · refine List.nodup_append.mpr ⟨q, q2, fun a ha b hb z => ?_⟩
    subst z
    exact n2 a hb (by rw [p]; simp [ha])
  · rcases List.mem_append.mp hr with z | z
    · exact o r z
    · exact cand_ok hf (h.ok hi) r (c2 r z)
  · have := h.same c
    subst this
    exact pass_closed c
theorem closed_did {f : Fr} {lot : Rw} {R : List Rw} : Closed (isLet lot) (anss f) R ↔ ∀ x ∈ R, ∀ y ∈ R, Did f lot R x y := by
  unfold Closed Did anss
  constructor
  · intro h x hx y hy il t ht
    exact h x hx y hy il _ (List.mem_map.mpr ⟨t, List.mem_range.mpr ht, rfl⟩)
  · intro h x hx y hy il r hr
    obtain ⟨t, ht, rfl⟩ := List.mem_map.mp hr
    exact h x hx y hy il t (List.mem_range.mp ht)
/-- the closing of ascending rows is the rows just if they are closed -/
theorem closing_eq {f : Fr} {lot : Rw} {n : Nat} {R F : List Rw} (ha : Asc R) (h : ClI f lot n R F) (hc : Closed (isLet lot) (anss f) F) : decide (sset F = R) = closedB f lot R := by
  rw [Bool.eq_iff_iff, decide_eq_true_eq, closedB_iff, ← closed_did]
  constructor
  · intro e
    have m : ∀ r, r ∈ F ↔ r ∈ R := fun r => by rw [← e, mem_sset]
    intro x hx y hy il r hr
    exact (m r).mp (hc x ((m x).mpr hx) y ((m y).mpr hy) il r hr)
  · intro c
    rw [h.same c]
    exact sset_self ha
mutual
theorem ok_mono {m n : Nat} (h : m ≤ n) : ∀ {d : D}, d.ok m = true → d.ok n = true
  | .non, _ => rfl
  | .bl _, _ => rfl
  | .int _, _ => rfl
  | .str s, k => k
  | .tup l, k => by
    simp only [D.ok, Bool.and_eq_true, decide_eq_true_eq] at k ⊢
    exact ⟨by omega, oks_mono h k.2⟩
  | .lst l, k => by
    simp only [D.ok, Bool.and_eq_true, decide_eq_true_eq] at k ⊢
    exact ⟨by omega, oks_mono h k.2⟩
  | .ref _, k => by simp [D.ok] at k
  | .fn _, k => by simp [D.ok] at k
  | .scr _, k => by simp [D.ok] at k
theorem oks_mono {m n : Nat} (h : m ≤ n) : ∀ {l : List D}, oks m l = true → oks n l = true
  | [], _ => rfl
  | d :: l, k => by
    simp only [oks, Bool.and_eq_true] at k ⊢
    exact ⟨ok_mono h k.1, oks_mono h k.2⟩
end
end Rx

set_option Elab.async false
set_option autoImplicit false
set_option linter.all false
set_option maxRecDepth 100000
/-! W8: the well of draws. -/
namespace Rx
open PySem L2 Pl
def wellS (g : List Int) (m : Int) (S : List O) : List O := .lst (g.map .int) :: .lst [.ref 0, .int m] :: S
theorem well0 {g : List Int} {m : Int} {S : List O} : (wellS g m S)[0]? = some (.lst (g.map .int)) := id rfl
theorem well1 {g : List Int} {m : Int} {S : List O} : (wellS g m S)[1]? = some (.lst [.ref 0, .int m]) := id rfl
theorem well_get {g : List Int} {m : Int} {S : List O} {i : Nat} : (wellS g m S)[i + 2]? = S[i]? := id rfl
theorem well_len {g : List Int} {m : Int} {S : List O} : (wellS g m S).length = S.length + 2 := by simp [wellS]
theorem well_app {g : List Int} {m : Int} {S X : List O} : wellS g m S ++ X = wellS g m (S ++ X) := id rfl
theorem well_set0 {g : List Int} {m : Int} {S : List O} (l : List Int) : (wellS g m S).set 0 (.lst (l.map .int)) = wellS l m S := id rfl
theorem well_set1 {g : List Int} {m x : Int} {S : List O} : (wellS g m S).set 1 (.lst [.ref 0, .int x]) = wellS g x S := id rfl
theorem ints_clean (n : Nat) (l : List Int) : cleans n (l.map .int) = true := cleans_map l fun _ _ => rfl
theorem tidy_well {n : Nat} {g g' : List Int} {m m' : Int} {S : List O} (hn : 0 < n) : tidy n (wellS g' m' S) (wellS g m S) = true := by
  simp only [wellS, tidy, tidy_self, Bool.and_true, O.clean, ints_clean, Bool.or_true, Bool.true_and, cleans_cons, cleans_nil, clean_ref, clean_int]
  simp [hn]
theorem fin_well {n : Nat} {g g' : List Int} {m m' : Int} {S X : List O} {d : D} (hn : n = (wellS g m S).length) (hd : ∀ i, d ≠ .ref i) (h : d.clean n = true) : fin true n (wellS g m S) d (wellS g' m' (S ++ X)) = .ok d (wellS g' m' S) := by
  rw [← well_app]
  refine fin_chgN hn (by rw [hn, well_len, well_len]) (tidy_well (by rw [hn, well_len]; omega)) hd h
theorem fin_well0 {n : Nat} {g g' : List Int} {m m' : Int} {S : List O} {d : D} (hn : n = (wellS g m S).length) (hd : ∀ i, d ≠ .ref i) (h : d.clean n = true) : fin true n (wellS g m S) d (wellS g' m' S) = .ok d (wellS g' m' S) := by
  have := fin_well (X := []) (g' := g') (m' := m') hn hd h
  rwa [List.append_nil] at this
theorem fin_well_lst {n i : Nat} {g g' : List Int} {m m' : Int} {S X : List O} {l : List D} (hn : n = (wellS g m S).length) (hi : n ≤ i) (hg : (wellS g' m' (S ++ X))[i]? = some (.lst l)) (h : cleans n l = true) : fin true n (wellS g m S) (.ref i) (wellS g' m' (S ++ X)) = .ok (.lst l) (wellS g' m' S) := by
  subst hn
  rw [← well_app] at hg ⊢
  exact fin_chg_lst (by rw [well_len, well_len]) (tidy_well (by rw [well_len]; omega)) hi hg h
theorem mulOk_r (i : Int) {j : Int} (h0 : 0 ≤ j) (h : j ≤ 1000000000) : mulOk i j = true := by
  unfold mulOk
  rw [Bool.or_eq_true, Bool.and_eq_true, Bool.and_eq_true]
  right
  rw [decide_eq_true_eq, decide_eq_true_eq]
  exact ⟨by omega, by omega⟩
theorem bin_mod (S : List O) {i j : Int} (h : 0 < j) : binD S .mod (.int i) (.int j) = some (.int (i % j)) := by
  have e : binD S .mod (.int i) (.int j) = if 0 < j then some (.int (i % j)) else none := id rfl
  rw [e, if_pos h]
theorem bin_fdiv (S : List O) {i j : Int} (h : 0 < j) (k : j ≤ 1000000) : binD S .fdiv (.int i) (.int j) = some (.int (i / j)) := by
  have e : binD S .fdiv (.int i) (.int j) = if 0 < j ∧ j < 1073741824 then some (.int (i / j)) else none := id rfl
  rw [e, if_pos ⟨h, by omega⟩]
theorem len_well0 {g : List Int} {m : Int} {S : List O} : biD (wellS g m S) .len [.ref 0] = some (di g.length) := by rw [len_ref well0]; simp
theorem idx_well1_0 {g : List Int} {m : Int} {S : List O} : idxD (wellS g m S) (.ref 1) (.int 0) = some (.ref 0) := by rw [idx_ref well1]; rfl
theorem idx_well1_1 {g : List Int} {m : Int} {S : List O} : idxD (wellS g m S) (.ref 1) (.int 1) = some (.int m) := by rw [idx_ref well1]; rfl
theorem rng2 : rngD [.int 2] = some [di 0, di 1] := id rfl
theorem rng3 : rngD [.int 3] = some [di 0, di 1, di 2] := id rfl
theorem rng4 : rngD [.int 4] = some [di 0, di 1, di 2, di 3] := id rfl
theorem mod_nat {i : Int} {n : Nat} (h : 1 ≤ n) : ∃ v : Nat, v < n ∧ i % (n : Int) = v := by
  have h1 := Int.emod_nonneg i (show (n : Int) ≠ 0 by omega)
  have h2 := Int.emod_lt_of_pos i (show (0 : Int) < n by omega)
  exact ⟨(i % (n : Int)).toNat, by omega, by omega⟩
theorem pop_well {g : List Int} {x m : Int} {S : List O} : popD (wellS (g ++ [x]) m S) (.ref 0) = some (.int x, wellS g m S) := by
  rw [pop_of (l := g.map .int) (d := .int x) (by rw [well0]; simp), well_set0]
theorem app_well {g : List Int} {x m : Int} {S : List O} (h : g.length ≤ 1000) : appD (wellS g m S) (.ref 0) (.int x) = some (wellS (g ++ [x]) m S) := by
  rw [appD_of well0 (by simp; omega)]
  have : (g.map D.int) ++ [.int x] = (g ++ [x]).map .int := by simp
  rw [this, well_set0]
theorem isL_well {g : List Int} {m : Int} {S : List O} : isLD (wellS g m S) (.ref 0) = true := isLD_of well0
theorem setD_well {g : List Int} {m x : Int} {S : List O} : setD (wellS g m S) (.ref 1) (.int 1) (.int x) = some (wellS g x S) := by
  simp only [setD, well1]
  rfl
/-- a draw's end -/
def Drew (n : Nat) (S : List O) (d : D) (S' : List O) : Prop := ∃ v g' m', v < n ∧ g'.length ≤ 40 ∧ d = di v ∧ S' = wellS g' m' S
/-- all rows of values 0 and 1 -/
def dat2 : Nat → List Rw
  | 0 => [[]]
  | n + 1 => (dat2 n).map (· ++ [0]) ++ (dat2 n).map (· ++ [1])
theorem dat2_len : ∀ n, (dat2 n).length = 2 ^ n
  | 0 => rfl
  | n + 1 => by simp [dat2, dat2_len n, Nat.pow_succ]; omega
theorem dat2_ok : ∀ n, ∀ r ∈ dat2 n, RwOk 2 n r
  | 0, r, h => by simp [dat2] at h; subst h; exact ⟨rfl, by simp⟩
  | n + 1, r, h => by
    simp only [dat2, List.mem_append, List.mem_map] at h
    rcases h with ⟨q, hq, rfl⟩ | ⟨q, hq, rfl⟩
    · have o := dat2_ok n q hq
      refine ⟨by simp [o.1], fun x hx => ?_⟩
      rcases List.mem_append.mp hx with z | z
      · exact o.2 x z
      · simp at z; omega
    · have o := dat2_ok n q hq
      refine ⟨by simp [o.1], fun x hx => ?_⟩
      rcases List.mem_append.mp hx with z | z
      · exact o.2 x z
      · simp at z; omega
/-- how many rows a row of drawn ones may come to -/
def rB : Nat → Nat
  | 0 => 1
  | d + 1 => 1 + 8 * rB d
theorem rB_pos : ∀ d, 1 ≤ rB d
  | 0 => Nat.le_refl _
  | d + 1 => by rw [rB]; omega
theorem rB_mono : ∀ d, rB d ≤ rB (d + 1)
  | 0 => by simp [rB]
  | d + 1 => by have := rB_mono d; rw [rB, rB]; omega
/-- drawn rows -/
structure Drawn (f : Fr) (most deep : Nat) (l : List Row) : Prop where
  ok : rowsOk f l
  dep : rdep l ≤ deep
  len : l.length ≤ most
  wid : wids l
  sz : rsz l ≤ l.length * rB deep
theorem Drawn.snoc {f : Fr} {most deep : Nat} {l : List Row} {r : Row} (h : Drawn f most deep l) (hl : l.length < most) (ho : r.Ok f) (hd : r.dep ≤ deep) (hw : r.wid) (hs : r.sz ≤ rB deep) : Drawn f most deep (l ++ [r]) := by
  refine ⟨rowsOk_iff.mpr fun q hq => ?_, rdep_le.mpr fun q hq => ?_, by simp; omega, wids_iff.mpr fun q hq => ?_, ?_⟩
  · rcases List.mem_append.mp hq with z | z
    · exact rowsOk_iff.mp h.ok q z
    · simp at z; subst z; exact ho
  · rcases List.mem_append.mp hq with z | z
    · exact rdep_le.mp h.dep q z
    · simp at z; subst z; exact hd
  · rcases List.mem_append.mp hq with z | z
    · exact wids_iff.mp h.wid q z
    · simp at z; subst z; exact hw
  · have := h.sz
    rw [rsz_append]
    simp only [rsz, List.length_append, List.length_cons, List.length_nil, Nat.add_mul]
    omega
theorem Drawn.nil (f : Fr) (most deep : Nat) : Drawn f most deep [] := ⟨trivial, by simp [rdep], by simp, trivial, by simp [rsz]⟩
def OneOf (l : List D) (S : List O) (d : D) (S' : List O) : Prop := ∃ (v : Nat) (g' : List Int) (m' : Int), l[v]? = some d ∧ g'.length ≤ 40 ∧ S' = wellS g' m' S
def Drawns (n k : Nat) (S : List O) (r : List D) (S' : List O) : Prop := ∃ (vs : List Nat) (g' : List Int) (m' : Int), vs.length = k ∧ (∀ v ∈ vs, v < n) ∧ g'.length ≤ 40 ∧ r = vs.map di ∧ S' = wellS g' m' S
def DrewRows (f : Fr) (most deep : Nat) (S : List O) (d : D) (S' : List O) : Prop := ∃ (l : List Row) (g' : List Int) (m' : Int), Drawn f most deep l ∧ g'.length ≤ 40 ∧ d = .tup (dRows l) ∧ S' = wellS g' m' S
section
variable {g : List Int} {m : Int} {S X : List O} {l : List D} {d : D}
theorem get_w : (wellS g m (S ++ .lst l :: X))[S.length + 2]? = some (.lst l) := by rw [well_get]; exact get0
theorem isL_w : isLD (wellS g m (S ++ .lst l :: X)) (.ref (S.length + 2)) = true := isLD_of get_w
theorem app_w (k : l.length ≤ 1000000) : appD (wellS g m (S ++ .lst l :: X)) (.ref (S.length + 2)) d = some (wellS g m (S ++ .lst (l ++ [d]) :: X)) := by
  rw [appD_of get_w k]
  congr 1
  show _ :: _ :: ((S ++ .lst l :: X).set S.length (.lst (l ++ [d]))) = _
  rw [set0]; rfl
theorem ext_w {ms : List D} (k : l.length + ms.length ≤ 1000000) : extD (wellS g m (S ++ .lst l :: X)) (.ref (S.length + 2)) (.lst ms) = some (wellS g m (S ++ .lst (l ++ ms) :: X)) := by
  rw [extD_of get_w rfl k]
  congr 1
  show _ :: _ :: ((S ++ .lst l :: X).set S.length (.lst (l ++ ms))) = _
  rw [set0]; rfl
end
theorem eq_tabs_nil (S : List O) (A : List Rw) : eqD S (.tup (A.map dR)) (.tup []) = some (decide (A = [])) := eqD_rowsT S A []
theorem three {α : Type} {l : List α} (h : l.length = 3) : ∃ a b c, l = [a, b, c] := by
  match l, h with
  | [a, b, c], _ => exact ⟨a, b, c, rfl⟩
theorem sz_fork (r : Nat) (l m : List Row) : (Row.fork r l m).sz = rsz l + rsz m + 1 := by rw [Row.sz]
theorem sz_loop (n : Nat) (l : List Row) : (Row.loop n l).sz = (n + 1) * rsz l + 1 := by rw [Row.sz]
theorem dep_fork (r : Nat) (l m : List Row) : (Row.fork r l m).dep = max (rdep l) (rdep m) + 1 := by rw [Row.dep]
theorem dep_loop (n : Nat) (l : List Row) : (Row.loop n l).dep = rdep l + 1 := by rw [Row.dep]
theorem Drawn.fork {f : Fr} {r d : Nat} {u v : List Row} (hr : r < f.regs) (hu : Drawn f 4 d u) (hv : Drawn f 4 d v) : (Row.fork r u v).Ok f ∧ (Row.fork r u v).dep ≤ d + 1 ∧ (Row.fork r u v).wid ∧ (Row.fork r u v).sz ≤ rB (d + 1) := by
  have a := hu.len
  have b := hv.len
  have c := hu.dep
  have e := hv.dep
  have h1 := Nat.mul_le_mul_right (rB d) a
  have h2 := Nat.mul_le_mul_right (rB d) b
  have h3 := hu.sz
  have h4 := hv.sz
  refine ⟨⟨hr, hu.ok, hv.ok⟩, by rw [dep_fork]; omega, ⟨⟨by omega, by omega⟩, hu.wid, hv.wid⟩, ?_⟩
  rw [sz_fork, rB]; omega
theorem Drawn.loop {f : Fr} {n d : Nat} {u : List Row} (hn : n ≤ 2) (hu : Drawn f 2 d u) : (Row.loop n u).Ok f ∧ (Row.loop n u).dep ≤ d + 1 ∧ (Row.loop n u).wid ∧ (Row.loop n u).sz ≤ rB (d + 1) := by
  have a := hu.len
  have c := hu.dep
  have h1 := Nat.mul_le_mul_right (rB d) a
  have h3 := hu.sz
  have h5 : (n + 1) * rsz u ≤ 3 * (2 * rB d) := Nat.mul_le_mul (by omega) (by omega)
  refine ⟨⟨by omega, hu.ok⟩, by rw [dep_loop]; omega, ⟨by omega, hu.wid⟩, ?_⟩
  rw [sz_loop, rB]; omega
theorem fin_rows {f : Fr} {n : Nat} {g g' : List Int} {m m' : Int} {S : List O} {l : List Row} {X : List O} (hn : n = (wellS g m S).length) : fin true n (wellS g m S) (.tup (dRows l)) (wellS g' m' (S ++ X)) = .ok (.tup (dRows l)) (wellS g' m' S) := fin_well hn (by simp) (by simp)
def RunP (f : Fr) (l : List Row) (d : Rw) (S : List O) (r : D) (S' : List O) : Prop := ∃ (i : Nat) (X : List O) (L : List D), r = .tup [.ref i, dR (runs f l d)] ∧ S' = S ++ X ∧ S'[i]? = some (.lst L) ∧ L.length ≤ rsz l
theorem fin_open {S X : List O} {d : D} (hd : ∀ m, d ≠ .ref m) (h : d.clean S.length = false) : fin true S.length S d (S ++ X) = .ok d (S ++ X) := by
  unfold fin
  simp only [if_true, List.take_left', tidy_self]
  cases d with
  | ref m => exact (hd m rfl).elim
  | _ => simp_all
theorem enumL_map' {α : Type} (f : α → D) (a : List α) : enumL 0 (a.map f) = a.zipIdx.map fun p => .tup [di p.2, f p.1] := enumL_map f a 0
def TaskP (S : List O) (d : D) (S' : List O) : Prop := ∃ (f : Fr) (lot : Rw) (data : List Rw) (l : List Row) (g' : List Int) (m' : Int) (X : List O), f.Ok ∧ f.cells = 0 ∧ f.size = 2 ∧ (lot.Pairwise (· < ·) ∧ ∀ x ∈ lot, x < 10) ∧ (∀ d ∈ data, f.Dat d) ∧ data.Nodup ∧ 1 ≤ data.length ∧ data.length ≤ 4 ∧ Drawn f 3 2 l ∧ g'.length ≤ 40 ∧
  d = .tup [dF f, dR lot, .ref (S.length + 2), .tup (dRows l), .lst ((wanted f l data).map dR)] ∧ S' = wellS g' m' (S ++ .lst (data.map dR) :: X)
theorem fin_well_open {n : Nat} {g g' : List Int} {m m' : Int} {S X : List O} {d : D} (hn : n = (wellS g m S).length) (hd : ∀ i, d ≠ .ref i) (h : d.clean n = false) : fin true n (wellS g m S) d (wellS g' m' (S ++ X)) = .ok d (wellS g' m' (S ++ X)) := by
  have e : (wellS g' m' (S ++ X)).take n = wellS g' m' S := by
    rw [← well_app, hn, show (wellS g m S).length = (wellS g' m' S).length by rw [well_len, well_len], List.take_left']; rfl
  unfold fin
  simp only [if_true, e, tidy_well (show 0 < n by rw [hn, well_len]; omega)]
  cases d with
  | ref m => exact (hd m rfl).elim
  | _ => simp_all
def TabsP (v : Nat) (S : List O) (r : List D) (S' : List O) : Prop := ∃ (ts : List Rw) (g' : List Int) (m' : Int), ts.length = v ∧ (∀ t ∈ ts, RwOk 2 4 t) ∧ g'.length ≤ 40 ∧ r = ts.map dR ∧ S' = wellS g' m' S
def LotP (S : List O) (r : List D) (S' : List O) : Prop := ∃ (as : List Nat) (g' : List Int) (m' : Int), (as.Pairwise (· < ·) ∧ ∀ x ∈ as, x < 10) ∧ g'.length ≤ 40 ∧ r = as.map di ∧ S' = wellS g' m' S
def dtI (f : Fr) (S : List O) (T0 : D) (lot : Rw) (a : List Nat) (σ : Rx.Env) (S' : List O) : Prop :=
  ∃ (data : List Rw) (g' : List Int) (m' : Int), (∀ d ∈ data, f.Dat d) ∧ data.Nodup ∧ data.length ≤ a.length ∧ (1 ≤ a.length → 1 ≤ data.length) ∧ g'.length ≤ 40 ∧ S' = wellS g' m' (S ++ [.lst (data.map dR)]) ∧ ∃ p q, σ = [some (.ref 1), some T0, some (dF f), some (dR lot), some (.ref (S.length + 2)), p, none, none, q, none, none, none, none]
def SpP (n : Nat) (S : List O) (d : D) (S' : List O) : Prop := ∃ (g' : List Int) (m' : Int), d.ok 31 = true ∧ d.dep ≤ n + 1 ∧ g'.length ≤ 40 ∧ S' = wellS g' m' S
theorem ok_noref {m : Nat} {d : D} (h : d.ok m = true) : ∀ i, d ≠ .ref i := by
  rintro i rfl; simp [D.ok] at h
def WellP (d : D) (S' : List O) : Prop := d = .ref 1 ∧ ∃ (g : List Int) (m : Int), g.length ≤ 40 ∧ S' = wellS g m []
def WlI (A B : D) (a : List Int) (σ : Rx.Env) (S' : List O) : Prop := ∃ (g : List Int) (m : Int) (p : Option D), g.length ≤ a.length ∧ S' = [.lst (g.map .int)] ∧ σ = [some A, some B, some (.ref 0), some (.int m), p]
theorem pow18 (S : List O) : binD S .pow (.int 10) (.int 18) = some (.int 1000000000000000000) := by
  have e : binD S .pow (.int 10) (.int 18) = if 0 ≤ (18 : Int) ∧ (18 : Int) ≤ 1000000 ∧ (10 : Int).natAbs < 18446744073709551616 then some (.int ((10 : Int) ^ (18 : Int).toNat)) else none := id rfl
  rw [e, if_pos ⟨by decide, by decide, by decide⟩]
  rfl
@[simp] theorem abs_int (S : List O) (i : Int) : biD S .abs [.int i] = some (.int (if i < 0 then -i else i)) := id rfl
section
variable {g : List Int} {m : Int} {S X : List O} {o1 o2 : O} {l : List D} {d : D}
theorem get_w2 : (wellS g m (S ++ o1 :: o2 :: .lst l :: X))[S.length + 4]? = some (.lst l) := by
  rw [show S.length + 4 = (S.length + 2) + 2 by omega, well_get]; exact get2
theorem isL_w2 : isLD (wellS g m (S ++ o1 :: o2 :: .lst l :: X)) (.ref (S.length + 4)) = true := isLD_of get_w2
theorem set_w2 (q : List D) : (wellS g m (S ++ o1 :: o2 :: .lst l :: X)).set (S.length + 4) (.lst q) = wellS g m (S ++ o1 :: o2 :: .lst q :: X) := by
  show _ :: _ :: ((S ++ o1 :: o2 :: .lst l :: X).set (S.length + 2) (.lst q)) = _
  rw [set2]; rfl
theorem app_w2 (k : l.length ≤ 1000000) : appD (wellS g m (S ++ o1 :: o2 :: .lst l :: X)) (.ref (S.length + 4)) d = some (wellS g m (S ++ o1 :: o2 :: .lst (l ++ [d]) :: X)) := by
  rw [appD_of get_w2 k, set_w2]
theorem ext_w2 {ms : List D} (k : l.length + ms.length ≤ 1000000) : extD (wellS g m (S ++ o1 :: o2 :: .lst l :: X)) (.ref (S.length + 4)) (.lst ms) = some (wellS g m (S ++ o1 :: o2 :: .lst (l ++ ms) :: X)) := by
  rw [extD_of get_w2 rfl k, set_w2]
end
theorem bin_ref_lst {S : List O} {n : Nat} {x y : List D} (h : S[n]? = some (.lst x)) (k : x.length + y.length ≤ 1000000) : binD S .add (.ref n) (.lst y) = some (.lst (x ++ y)) := by
  have e : binD S .add (.ref n) (.lst y) = match lstOf S (.ref n), lstOf S (.lst y) with
    | some x, some y => if szOk (x.length + y.length) then some (.lst (x ++ y)) else none
    | _, _ => none := id rfl
  rw [e]
  simp only [lstOf, h, szOk_of k, if_true]
theorem bin_mul_tup (S : List O) {k : Nat} (x : D) (h1 : 1 ≤ k) (h2 : k ≤ 1000) : binD S .mul (.tup [x]) (di k) = some (.tup (List.replicate k x)) := by
  have e : binD S .mul (.tup [x]) (di k) = if (k : Int) = 1 then some (.tup [x]) else if 2 ≤ (k : Int) ∧ (k : Int) ≤ 1000 ∧ [x].length ≤ 1000 ∧ [x].isEmpty = false then some (.tup (List.replicate (k : Int).toNat [x]).flatten) else none := id rfl
  rw [e]
  by_cases h : k = 1
  · subst h; rfl
  · rw [if_neg (by omega), if_pos ⟨by omega, by omega, by simp, rfl⟩, Int.toNat_natCast]
    congr 2
    have : ∀ k : Nat, (List.replicate k [x]).flatten = List.replicate k x := fun k => by
      induction k with
      | zero => rfl
      | succ k ih => simp [List.replicate_succ, ih]
    exact this k
/-- a good value: not big, not deep -/
def Gv (j : Nat) (d : D) : Prop := d.ok 40 = true ∧ d.dep ≤ j
theorem Gv.tup {j : Nat} {l : List D} (hl : l.length ≤ 40) (h : ∀ d ∈ l, Gv j d) : Gv (j + 1) (.tup l) :=
  ⟨ok_tup.mpr ⟨hl, fun d hd => (h d hd).1⟩, dep_tup.mpr fun d hd => (h d hd).2⟩
theorem Gv.up {j i : Nat} {d : D} (h : Gv j d) (k : j ≤ i) : Gv i d := ⟨h.1, Nat.le_trans h.2 k⟩
theorem Gv.nat (n : Nat) : Gv 0 (di n) := ⟨rfl, Nat.le_refl _⟩
theorem Gv.str (x : String) : Gv 0 (.str (Str.ofString x)) := ⟨by rw [ok_str]; exact strOk_ofString x, Nat.le_refl _⟩
theorem Gv.row {r : Rw} (h : r.length ≤ 40) : Gv 1 (dR r) := ⟨ok_dR h, dep_dR r⟩
theorem Gv.rows {R : List Rw} (hl : R.length ≤ 40) (h : ∀ r ∈ R, r.length ≤ 40) : Gv 2 (.tup (R.map dR)) := Gv.tup (by simpa using hl) fun d hd => by
  obtain ⟨r, hr, rfl⟩ := List.mem_map.mp hd
  exact Gv.row (h r hr)
theorem Gv.lot {v : D} {j : Nat} (h : Gv j v) : Gv (j + 1) (.tup [.str (Str.ofString "lot"), v]) := Gv.tup (by simp) fun d hd => by
  simp at hd
  rcases hd with rfl | rfl
  · exact (Gv.str _).up (Nat.zero_le _)
  · exact h
theorem Gv.way {v w : D} {j : Nat} (h : Gv j v) (k : Gv j w) : Gv (j + 1) (.tup [.str (Str.ofString "way"), v, w]) := Gv.tup (by simp) fun d hd => by
  simp at hd
  rcases hd with rfl | rfl | rfl
  · exact (Gv.str _).up (Nat.zero_le _)
  · exact h
  · exact k
theorem Gv.cut {l : List D} {p : List D} {j : Nat} (h : Gv (j + 1) (.tup l)) (hp : ∀ d ∈ p, d ∈ l) (hl : p.length ≤ 40) : Gv (j + 1) (.tup p) :=
  Gv.tup hl fun d hd => ⟨(ok_tup.mp h.1).2 d (hp d hd), dep_tup.mp h.2 d (hp d hd)⟩
def OthP (S : List O) (r : D) (S' : List O) : Prop := ∃ (vals : List D) (g' : List Int) (m' : Int), (∀ v ∈ vals, Gv 10 v) ∧ vals.length ≤ 100 ∧ g'.length ≤ 40 ∧ r = .lst vals ∧ S' = wellS g' m' S
end Rx

set_option Elab.async false
set_option autoImplicit false
set_option linter.all false
set_option maxRecDepth 100000
namespace K66
open PySem L2 Rx Pl
/-! ### kinds of values -/
theorem w_is_integer (k : Nat) (hk : 1 ≤ k) (d : D) (S : List O) (h : (tyD S d).isSome) : evF cs T k 46 [d] S = .ok (.bl (isI d)) S := by
  obtain ⟨k, rfl, hj⟩ := fuel hk
  (refine call_eq (f := f46) rfl rfl ?_; simp only [f46, b46, List.map_cons, List.map_nil, List.replicate_succ, List.replicate_zero, List.cons_append, List.nil_append, Nat.reduceSub])
  refine evB_cons ?_
  obtain ⟨t, ht⟩ := Option.isSome_iff_exists.mp h
  have e : isI d = (Ty.sub t .int && !Ty.sub t .bool) := by
    cases d <;> simp [tyD] at ht <;> (try split at ht) <;> (try simp at ht) <;> (try subst ht) <;> simp [isI, Ty.sub]
  simp [isa_ty _ ht, e]
  cases hq : Ty.sub t .int <;> simp [isa_ty _ ht, e, hq]
theorem w_int_di (k : Nat) (hk : 1 ≤ k) (n : Nat) (S : List O) : evF cs T k 46 [di n] S = .ok (.bl true) S := w_is_integer k hk _ S rfl
theorem w_is_number (k : Nat) (hk : 2 ≤ k) (d : D) (S : List O) (h : (tyD S d).isSome) : evF cs T k 48 [d] S = .ok (.bl (match d with | .int i => decide (0 ≤ i) | _ => false)) S := by
  obtain ⟨k, rfl, hj⟩ := fuel hk
  (refine call_eq (f := f48) rfl rfl ?_; simp only [f48, b48, List.map_cons, List.map_nil, List.replicate_succ, List.replicate_zero, List.cons_append, List.nil_append, Nat.reduceSub])
  refine evB_cons ?_
  simp [Ty.sub, w_is_integer k hj d S h]
  cases d <;> simp [isI]
  rename_i i
  by_cases z : 0 ≤ i <;> simp [z] <;> omega
theorem w_is_below (k : Nat) (hk : 3 ≤ k) (d : D) (n : Int) (S : List O) (h : (tyD S d).isSome) : evF cs T k 33 [d, .int n] S = .ok (.bl (below n d)) S := by
  obtain ⟨k, rfl, hj⟩ := fuel hk
  (refine call_eq (f := f33) rfl rfl ?_; simp only [f33, b33, List.map_cons, List.map_nil, List.replicate_succ, List.replicate_zero, List.cons_append, List.nil_append, Nat.reduceSub])
  refine evB_cons ?_
  simp [Ty.sub, w_is_number k hj d S h]
  cases d <;> simp [truD, below]
  rename_i i
  by_cases z : 0 ≤ i <;> simp [z]
theorem w_below_di (k : Nat) (hk : 3 ≤ k) (m : Nat) (n : Int) (S : List O) : evF cs T k 33 [di m, .int n] S = .ok (.bl (decide ((m : Int) < n))) S := by
  rw [w_is_below k hk _ _ _ (id rfl)]
  simp [below]
theorem w_is_string (k : Nat) (hk : 1 ≤ k) (d : D) (S : List O) (h : (tyD S d).isSome) : evF cs T k 26 [d] S = .ok (.bl (isS d)) S := by
  obtain ⟨k, rfl, hj⟩ := fuel hk
  (refine call_eq (f := f26) rfl rfl ?_; simp only [f26, b26, List.map_cons, List.map_nil, List.replicate_succ, List.replicate_zero, List.cons_append, List.nil_append, Nat.reduceSub])
  refine evB_cons ?_
  simp [isa_S h]
theorem w_string (k : Nat) (hk : 1 ≤ k) (x : Str) (S : List O) : evF cs T k 26 [.str x] S = .ok (.bl true) S := w_is_string k hk _ S rfl
theorem w_is_sequence (k : Nat) (hk : 1 ≤ k) (d : D) (S : List O) (h : tyD S d = some .list ∨ tyD S d = some .tuple) : evF cs T k 32 [d] S = .ok (.bl true) S := by
  obtain ⟨k, rfl, hj⟩ := fuel hk
  (refine call_eq (f := f32) rfl rfl ?_; simp only [f32, b32, List.map_cons, List.map_nil, List.replicate_succ, List.replicate_zero, List.cons_append, List.nil_append, Nat.reduceSub])
  refine evB_cons ?_
  rcases h with h | h <;> simp [Ty.sub, isa_ty _ h, Ty.sub]
/-! ### frames -/
theorem w_is_table (k : Nat) (hk : 4 ≤ k) {n : Nat} (hn : n ≤ 10) (t : Rw) (ht : RwOk n (n * n) t) (S : List O) : evF cs T k 47 [di n, dR t] S = .ok (.bl true) S := by
  obtain ⟨k, rfl, hj⟩ := fuel hk
  (refine call_eq (f := f47) rfl rfl ?_; simp only [f47, b47, List.map_cons, List.map_nil, List.replicate_succ, List.replicate_zero, List.cons_append, List.nil_append, Nat.reduceSub])
  have m : mulOk n n = true := mulOk_le _ (by omega)
  have hl : t.length ≤ 100 := by rw [ht.1]; exact Nat.mul_le_mul hn hn
  have z : szOk t.length = true := szOk_of (by omega)
  refine evB_cons ?_
  have e1 : ((t.length : Int) = n * n) := by rw [ht.1]; simp
  simp [bin_mul _ m, e1]
  rw [compL_map (enc := di) (g := fun x => .bl true) rfl t fun x hx => eq_of_wp (by
    simp [turnC_put, w_below_di k hj, ht.2 x hx])]
  simp [z]
theorem w_need_frame (k : Nat) (hk : 5 ≤ k) {f : Fr} (hf : f.Ok) (S : List O) : evF cs T k 31 [dF f] S = .ok (dF f) S := by
  obtain ⟨k, rfl, hj⟩ := fuel hk
  (refine call_eq (f := f31) rfl rfl ?_; simp only [f31, b31, List.map_cons, List.map_nil, List.replicate_succ, List.replicate_zero, List.cons_append, List.nil_append, Nat.reduceSub])
  have ⟨h1, h2, h3, h4, h5, h6, h7, h8⟩ := hf
  refine evB_cons ?_
  simp
  refine evB_cons ?_
  simp [dF]
  refine evB_cons ?_
  have e2 : ¬ (f.size : Int) < 2 := by omega
  have e3 : ¬ (3 : Int) < f.size := by omega
  simp [w_int_di k (by omega), e2, e3]
  refine evB_cons ?_
  have e2 : ¬ (f.regs : Int) < 1 := by omega
  have e3 : ¬ (4 : Int) < f.regs := by omega
  simp [w_int_di k (by omega), e2, e3]
  refine evB_cons ?_
  have e4 : wp (evE (evF cs T k) cs (.or [.not (.call 46 [.var 3]), .and [.cmp .ne (.var 3) (.lit (.int 0)), .cmp .ne (.var 3) (.var 1)]]) [some (dF f), some (di f.size), some (di f.regs), some (di f.cells), some (.tup (f.tabs.map dR)), some (di f.deep), none] S) fun a S' => a = .bl false ∧ S' = S := by
    rcases h5 with c | c
    · simp [w_int_di k (by omega), c]
    · have c' : ¬ (f.size = 0) := by omega
      simp [w_int_di k (by omega), c, c']
  rw [show D.tup [di f.size, di f.regs, di f.cells, D.tup (List.map dR f.tabs), di f.deep] = dF f from rfl, eS_ite]
  refine wp_mono e4 ?_
  rintro _ _ ⟨rfl, rfl⟩
  simp
  refine evB_cons ?_
  simp [cs]
  have e2 : ¬ (4 < (f.tabs.length : Int)) := by omega
  simp [e2]
  rw [compL_map (enc := dR) (g := fun x => .bl true) rfl f.tabs fun x hx => eq_of_wp (by
    simp [turnC_put, w_is_table k (by omega) (Nat.le_trans h2 (by omega)) x (h7 x hx)])]
  have z : szOk f.tabs.length = true := szOk_of (by omega)
  simp [z]
  refine evB_cons ?_
  have e6 : (f.deep : Int) < 4 := by omega
  simp [cs, w_below_di k (by omega), e6]
  refine evB_cons ?_
  simp
theorem w_need_bare (k : Nat) (hk : 6 ≤ k) {f : Fr} (hf : f.Ok) (hc : f.cells = 0) (S : List O) : evF cs T k 14 [dF f] S = .ok (dF f) S := by
  obtain ⟨k, rfl, hj⟩ := fuel hk
  (refine call_eq (f := f14) rfl rfl ?_; simp only [f14, b14, List.map_cons, List.map_nil, List.replicate_succ, List.replicate_zero, List.cons_append, List.nil_append, Nat.reduceSub])
  refine evB_cons ?_
  simp [w_need_frame k (by omega) hf]
  refine evB_cons ?_
  simp [hc]
  refine evB_cons ?_
  simp
/-! ### data, lots -/
theorem w_is_datum (k : Nat) (hk : 4 ≤ k) {f : Fr} (hf : f.Ok) {d : Rw} (hd : f.Dat d) (S : List O) : evF cs T k 49 [dF f, dR d] S = .ok (.bl true) S := by
  obtain ⟨k, rfl, hj⟩ := fuel hk
  (refine call_eq (f := f49) rfl rfl ?_; simp only [f49, b49, List.map_cons, List.map_nil, List.replicate_succ, List.replicate_zero, List.cons_append, List.nil_append, Nat.reduceSub])
  refine evB_cons ?_
  have e : (d.length : Int) = f.regs + f.cells := by rw [hd.1]; simp
  simp [e]
  refine evB_cons ?_
  simp
  rw [compL_map (enc := di) (g := fun x => .bl true) rfl d fun x hx => eq_of_wp (by
    simp [turnC_put, w_below_di k (by omega), hd.2 x hx])]
  have z : szOk d.length = true := szOk_of (by rw [hd.1]; have := hf.r4; have := hf.c; have := hf.s3; omega)
  simp [z]
theorem w_need_datum (k : Nat) (hk : 6 ≤ k) {f : Fr} (hf : f.Ok) {d : Rw} (hd : f.Dat d) (S : List O) : True := trivial
/-- a lot of atoms -/
def LotOk (l : Rw) : Prop := l.Pairwise (· < ·) ∧ ∀ x ∈ l, x < 10
theorem lot_len {l : Rw} (h : LotOk l) : l.length ≤ 10 := by
  have n : l.Nodup := by
    unfold List.Nodup
    exact List.Pairwise.imp (fun {a b} (z : a < b) (e : a = b) => by omega) h.1
  have := nodup_len l (List.range 10) n fun x hx => List.mem_range.mpr (h.2 x hx)
  simpa using this
theorem w_need_lot (k : Nat) (hk : 4 ≤ k) {l : Rw} (hl : LotOk l) (S : List O) : evF cs T k 15 [dR l] S = .ok (dR l) S := by
  obtain ⟨k, rfl, hj⟩ := fuel hk
  (refine call_eq (f := f15) rfl rfl ?_; simp only [f15, b15, List.map_cons, List.map_nil, List.replicate_succ, List.replicate_zero, List.cons_append, List.nil_append, Nat.reduceSub])
  refine evB_cons ?_
  simp [w_is_sequence k (by omega) (dR l) _ (.inr rfl)]
  refine evB_cons ?_
  simp [enumL_map]
  refine forL_wp (fun r σ S' => S' = S ∧ (∃ a b, σ = [some (dR l), a, b]) ∧ ∃ q : List (Nat × Nat), r = q.map (fun p => D.tup [di p.2, di p.1]) ∧ ∀ p ∈ q, l[p.2]? = some p.1) (fun _ _ _ _ => rfl) ?_ ?_ _ _ _ ⟨rfl, ⟨_, _, rfl⟩, l.zipIdx, rfl, fun p hp => by
    have := List.mem_zipIdx' hp
    exact (List.getElem?_eq_getElem this.1).trans (congrArg some this.2.symm)⟩
  · rintro d r σ _ ⟨rfl, ⟨a, b, rfl⟩, q, hq, hp⟩
    cases q with
    | nil => simp at hq
    | cons p q =>
      simp at hq
      obtain ⟨rfl, rfl⟩ := hq
      have m := hp p (by simp)
      rw [forT_put (σ' := [some (dR l), some (di p.2), some (di p.1)]) _ _ _ _ (by simp)]
      refine evB_cons ?_
      have lt : p.1 < 10 := hl.2 _ (List.mem_of_getElem? m)
      have lt : (p.1 : Int) < 10 := by omega
      simp [cs, w_below_di k (by omega), lt]
      by_cases z : p.2 = 0
      · simp [z]
        exact ⟨q, rfl, fun x y hx => hp (x, y) (by simp [hx])⟩
      · have z1 : 0 < p.2 := by omega
        have e1 : (p.2 : Int) - 1 = ((p.2 - 1 : Nat) : Int) := by omega
        have hlen : p.2 < l.length := (List.getElem?_eq_some_iff.mp m).1
        have hlt : l[p.2 - 1]? = some (l[p.2 - 1]'(by omega)) := List.getElem?_eq_getElem (by omega)
        have hlt2 : l[p.2 - 1]'(by omega) < p.1 := by
          have := List.pairwise_iff_getElem.mp hl.1 (p.2 - 1) p.2 (by omega) hlen (by omega)
          rw [(List.getElem?_eq_some_iff.mp m).2] at this
          exact this
        have z2 : ((l[p.2 - 1]'(by omega) : Nat) : Int) < p.1 := by omega
        simp [z1, e1, dR, hlt, z2]
        exact ⟨q, rfl, fun x y hx => hp (x, y) (by simp [hx])⟩
  · rintro σ _ ⟨rfl, ⟨a, b, rfl⟩, _⟩
    simp
    refine evB_cons ?_
    simp
/-- data, unlike ones -/
theorem w_need_data (k : Nat) (hk : 5 ≤ k) {f : Fr} (hf : f.Ok) {l : List Rw} (hl : ∀ d ∈ l, f.Dat d) (hn : l.Nodup) {S : List O} {n : Nat} (hS : S[n]? = some (.lst (l.map dR))) : evF cs T k 34 [dF f, .ref n] S = .ok (.tup (l.map dR)) S := by
  obtain ⟨k, rfl, hj⟩ := fuel hk
  (refine call_eq (f := f34) rfl rfl ?_; simp only [f34, b34, List.map_cons, List.map_nil, List.replicate_succ, List.replicate_zero, List.cons_append, List.nil_append, Nat.reduceSub])
  refine evB_cons ?_
  have ty : tyD S (.ref n) = some .list := by simp [tyD, hS]
  simp [w_is_sequence k (by omega) (.ref n) _ (.inl ty)]
  refine evB_cons ?_
  simp [srcOf_ref hS, enumL_map]
  refine forL_wp (fun r σ S' => S' = S ∧ (∃ a b, σ = [some (dF f), some (.ref n), a, b]) ∧ ∃ q : List (Rw × Nat), r = q.map (fun p => D.tup [di p.2, dR p.1]) ∧ ∀ p ∈ q, l[p.2]? = some p.1) (fun _ _ _ h => by rw [h.1]; exact still_at hS) ?_ ?_ _ _ _ ⟨rfl, ⟨_, _, rfl⟩, l.zipIdx, rfl, fun p hp => by
    have := List.mem_zipIdx' hp
    exact (List.getElem?_eq_getElem this.1).trans (congrArg some this.2.symm)⟩
  · rintro d r σ _ ⟨rfl, ⟨a, b, rfl⟩, q, hq, hp⟩
    cases q with
    | nil => simp at hq
    | cons p q =>
      simp at hq
      obtain ⟨rfl, rfl⟩ := hq
      have m := hp p (by simp)
      rw [forT_put (σ' := [some (dF f), some (.ref n), some (di p.2), some (dR p.1)]) _ _ _ _ (by simp)]
      refine evB_cons ?_
      have dt : f.Dat p.1 := hl _ (List.mem_of_getElem? m)
      have ni : p.1 ∉ l.take p.2 := by
        intro z
        obtain ⟨i, hi, e⟩ := List.mem_iff_getElem.mp z
        rw [List.getElem_take] at e
        simp at hi
        obtain ⟨h1, h2⟩ := List.getElem?_eq_some_iff.mp m
        have := (List.getElem_inj hn).mp (e.trans h2.symm)
        omega
      simp [w_is_datum k (by omega) hf dt, sli_ref hS, cut_to, ← List.map_take, ni]
      exact ⟨q, rfl, fun x y hx => hp (x, y) (by simp [hx])⟩
  · rintro σ _ ⟨rfl, ⟨a, b, rfl⟩, _⟩
    simp
    refine evB_cons ?_
    simp [tuple_ref hS]
theorem w_need_few_data (k : Nat) (hk : 6 ≤ k) {f : Fr} (hf : f.Ok) {l : List Rw} (hl : ∀ d ∈ l, f.Dat d) (hn : l.Nodup) (h1 : 1 ≤ l.length) (h4 : l.length ≤ 4) {S : List O} {n : Nat} (hS : S[n]? = some (.lst (l.map dR))) : evF cs T k 16 [dF f, .ref n] S = .ok (.tup (l.map dR)) S := by
  obtain ⟨k, rfl, hj⟩ := fuel hk
  (refine call_eq (f := f16) rfl rfl ?_; simp only [f16, b16, List.map_cons, List.map_nil, List.replicate_succ, List.replicate_zero, List.cons_append, List.nil_append, Nat.reduceSub])
  refine evB_cons ?_
  simp [w_need_data k (by omega) hf hl hn hS]
  refine evB_cons ?_
  have e1 : ¬ (l.length : Int) < 1 := by omega
  have e2 : ¬ 4 < (l.length : Int) := by omega
  simp [e1, e2, cs]
  refine evB_cons ?_
  simp
end K66

set_option Elab.async false
set_option autoImplicit false
set_option linter.all false
set_option maxRecDepth 100000
namespace K66
open PySem L2 Rx Pl
/-! ### rows of programs -/
theorem w_put_value (k : Nat) (hk : 1 ≤ k) {s n : Nat} {d : Rw} (hd : RwOk s n d) (hn : n ≤ 1000) {i : Nat} (hi : i < n) (x : Nat) (S : List O) : evF cs T k 55 [dR d, di i, di x] S = .ok (dR (d.set i x)) S := by
  obtain ⟨k, rfl, hj⟩ := fuel hk
  (refine call_eq (f := f55) rfl rfl ?_; simp only [f55, b55, List.map_cons, List.map_nil, List.replicate_succ, List.replicate_zero, List.cons_append, List.nil_append, Nat.reduceSub])
  refine evB_cons ?_
  have l : d.length = n := hd.1
  have e2 : List.take i d ++ x :: List.drop (i + 1) d = d.set i x := by
    rw [List.set_eq_take_append_cons_drop, if_pos (by omega)]
  simp [dR_def, cut_to, cut_from1]
  rw [bin_tup _ (by simp; omega)]
  simp [dR_def, cut_to, cut_from1]
  rw [bin_tup _ (by simp; omega)]
  have e3 : List.take i (d.map di) ++ di x :: List.drop (i + 1) (d.map di) = (d.map di).set i (di x) := by
    rw [← List.map_set, ← e2]; simp [List.map_take, List.map_drop]
  simp only [List.append_assoc, List.singleton_append, ofO_some]
  rw [e3, ← List.map_set]
  show wp (fin true S.length S (dR (d.set i x)) S) _
  rw [fin_same (clean_dR _ _), wp_ok]
  exact ⟨rfl, rfl⟩
section
variable {f : Fr} {d : Rw}
theorem reg_get (hd : f.Dat d) {i : Nat} (h : i < f.regs) : d[i]? = some (gt d i) := getD_get hd (by omega)
theorem cell_get (hf : f.Ok) (hd : f.Dat d) (h : 0 < f.cells) (i : Nat) : d[f.regs + gt d i]? = some (gt d (f.regs + gt d i)) := by
  have h2 := hf.s2
  have := getD_lt hd (by omega) i
  have h3 := hf.c
  exact getD_get hd (by omega)
theorem w_told_event (k : Nat) (hk : 1 ≤ k) (hf : f.Ok) (hd : f.Dat d) {r : Row} (hr : r.Ok f) (hn : r.isFork = false) (hl : r.noL) (S : List O) : evF cs T k 52 [dRow r, dR d, di f.regs] S = .ok (ev f r d) S := by
  obtain ⟨k, rfl, hj⟩ := fuel hk
  (refine call_eq (f := f52) rfl rfl ?_; simp only [f52, b52, List.map_cons, List.map_nil, List.replicate_succ, List.replicate_zero, List.cons_append, List.nil_append, Nat.reduceSub])
  refine evB_cons ?_
  cases r with
  | op t a b c =>
    simp only [dRow, Row.Ok] at hr ⊢
    simp
    refine evB_cons ?_
    simp [reg_get hd hr.2.2.1, reg_get hd hr.2.2.2, ev]
  | load a b =>
    simp only [dRow, Row.Ok] at hr ⊢
    simp
    refine evB_cons ?_
    simp
    refine evB_cons ?_
    have e : ((f.regs : Int) + (gt d b : Int)) = ((f.regs + gt d b : Nat) : Int) := rfl
    simp only [eS_ret, eE_tup, eEs_cons, eE_lit, eE_idx, eE_var, eEs_nil, eE_bin, List.getElem?_cons_succ, List.getElem?_cons_zero, getV_some, idx_tup, idx_dR, atI_2, atI_3, atI_4, atI_1, atI_0, ofO_some, Rx.atI_nat, reg_get hd hr.2.1, Option.map_some, bin_add, e, cell_get hf hd hr.2.2]
    simp [ev]
  | store a b =>
    simp only [dRow, Row.Ok] at hr ⊢
    simp
    refine evB_cons ?_
    simp
    refine evB_cons ?_
    simp
    refine evB_cons ?_
    simp [reg_get hd hr.1, reg_get hd hr.2.1, ev]
  | fence =>
    simp only [dRow]
    simp
    refine evB_cons ?_
    simp
    refine evB_cons ?_
    simp
    refine evB_cons ?_
    simp [ev]
  | fork => cases hn
  | loop => cases hl
theorem w_datum_after (k : Nat) (hk : 2 ≤ k) (hf : f.Ok) (hd : f.Dat d) {r : Row} (hr : r.Ok f) (hn : r.isFork = false) (hl : r.noL) (S : List O) : evF cs T k 53 [dF f, ev f r d, dRow r, dR d] S = .ok (dR (run1 f r d)) S := by
  obtain ⟨k, rfl, hj⟩ := fuel hk
  (refine call_eq (f := f53) rfl rfl ?_; simp only [f53, b53, List.map_cons, List.map_nil, List.replicate_succ, List.replicate_zero, List.cons_append, List.nil_append, Nat.reduceSub])
  have s2 := hf.s2
  have s3 := hf.s3
  have r4 := hf.r4
  have cc := hf.c
  refine evB_cons ?_
  cases r with
  | op t a b c =>
    simp only [dRow, Row.Ok] at hr ⊢
    simp
    refine evB_cons ?_
    have h1 := getD_lt hd (by omega) b
    have h2 := getD_lt hd (by omega) c
    obtain ⟨w, h3, h4⟩ := ask_get hf hr.1 h1 h2
    have e : ((gt d b : Int) : Int) * (f.size : Int) + (gt d c : Int) = ((gt d b * f.size + gt d c : Nat) : Int) := by simp
    simp only [ev, eS_ret, eE_call, eE_tup, eEs_cons, eE_lit, eE_idx, eE_var, eEs_nil, eE_bin, List.getElem?_cons_succ, List.getElem?_cons_zero, getV_some, idx_tup, idx_dR, F0, F3, atI_2, atI_3, atI_4, atI_1, atI_0, ofO_some, Rx.atI_nat, Option.map_some, bin_add, bin_mul _ (mulOk_le _ (show gt d b ≤ 1000000 by omega)), e, h4, List.getElem?_map, h3]
    simp [w_put_value k (by omega) hd (by omega) (show a < f.regs + f.cells by omega), run1]
  | load a b =>
    simp only [dRow, Row.Ok] at hr ⊢
    simp
    refine evB_cons ?_
    simp
    refine evB_cons ?_
    simp [ev, w_put_value k (by omega) hd (by omega) (show a < f.regs + f.cells by omega), run1]
  | store a b =>
    simp only [dRow, Row.Ok] at hr ⊢
    simp
    refine evB_cons ?_
    simp
    refine evB_cons ?_
    have h1 := getD_lt hd (by omega) a
    have e : ((f.regs : Int) + (gt d a : Int)) = ((f.regs + gt d a : Nat) : Int) := rfl
    simp only [ev, eS_ret, eE_call, eE_tup, eEs_cons, eE_lit, eE_idx, eE_var, eEs_nil, eE_bin, eE_ite, eE_cmp, cmp_eq, eqD_str, truD_bl, decide_true, ifB_t, List.getElem?_cons_succ, List.getElem?_cons_zero, getV_some, idx_tup, idx_dR, F1, atI_2, atI_3, atI_4, atI_1, atI_0, ofO_some, Rx.atI_nat, Option.map_some, bin_add, e]
    rw [w_put_value k (by omega) hd (by omega) (show f.regs + gt d a < f.regs + f.cells by omega)]
    simp [run1]
  | fence =>
    simp only [dRow]
    simp
    refine evB_cons ?_
    simp
    refine evB_cons ?_
    simp [run1]
  | fork => cases hn
  | loop => cases hl
end
/-! rows are rows -/
theorem is_rows {f : Fr} (hf : f.Ok) : ∀ n, (∀ (r : Row) (k : Nat) (S : List O), r.dep ≤ n → 2 * n + 5 ≤ k → r.Ok f → r.wid → evF cs T k 50 [dF f, dRow r] S = .ok (.bl true) S) ∧
    (∀ (l : List Row) (k : Nat) (S : List O), l.length ≤ 1000 → rdep l ≤ n → 2 * n + 6 ≤ k → rowsOk f l → wids l → evF cs T k 54 [dF f, .tup (dRows l)] S = .ok (.bl true) S) := by
  have rows : ∀ n, (∀ (r : Row) (k : Nat) (S : List O), r.dep ≤ n → 2 * n + 5 ≤ k → r.Ok f → r.wid → evF cs T k 50 [dF f, dRow r] S = .ok (.bl true) S) → ∀ (l : List Row) (k : Nat) (S : List O), l.length ≤ 1000 → rdep l ≤ n → 2 * n + 6 ≤ k → rowsOk f l → wids l → evF cs T k 54 [dF f, .tup (dRows l)] S = .ok (.bl true) S := by
    intro n H l k S hl hd hk ho hw
    obtain ⟨k, rfl, hj⟩ := fuel (n := 2 * n + 5) hk
    (refine call_eq (f := f54) rfl rfl ?_; simp only [f54, b54, List.map_cons, List.map_nil, List.replicate_succ, List.replicate_zero, List.cons_append, List.nil_append, Nat.reduceSub])
    refine evB_cons ?_
    simp [dRows_map]
    rw [compL_map (enc := dRow) (g := fun x => .bl true) rfl l fun x hx => eq_of_wp (by
      simp [turnC_put, H x k S (rdep_le.mp hd x hx) hj (rowsOk_iff.mp ho x hx) (wids_iff.mp hw x hx)])]
    have z : szOk l.length = true := szOk_of (by omega)
    simp [z]
  have row0 : ∀ (r : Row) (k : Nat) (S : List O), r.dep = 0 → 5 ≤ k → r.Ok f → evF cs T k 50 [dF f, dRow r] S = .ok (.bl true) S := by
    intro r k S h0 hk ho
    obtain ⟨k, rfl, hj⟩ := fuel (n := 4) hk
    (refine call_eq (f := f50) rfl rfl ?_; simp only [f50, b50, List.map_cons, List.map_nil, List.replicate_succ, List.replicate_zero, List.cons_append, List.nil_append, Nat.reduceSub])
    refine evB_cons ?_
    cases r with
    | op t a b c =>
      simp only [dRow, Row.Ok] at ho ⊢
      simp [w_string k (by omega), cs]
      refine evB_cons ?_
      simp
      refine evB_cons ?_
      simp
      refine evB_cons ?_
      simp
      have h1 : (t : Int) < f.tabs.length := by omega
      have h2 : (a : Int) < f.regs := by omega
      have h3 : (b : Int) < f.regs := by omega
      have h4 : (c : Int) < f.regs := by omega
      refine evB_cons ?_
      simp [w_below_di k (by omega), turnC_put, ho, bi_allL]
    | load a b =>
      simp only [dRow, Row.Ok] at ho ⊢
      simp [w_string k (by omega), cs]
      refine evB_cons ?_
      simp
      refine evB_cons ?_
      simp
      refine evB_cons ?_
      simp
      refine evB_cons ?_
      simp [w_below_di k (by omega), turnC_put, ho, bi_allL]
    | store a b =>
      simp only [dRow, Row.Ok] at ho ⊢
      simp [w_string k (by omega), cs]
      refine evB_cons ?_
      simp
      refine evB_cons ?_
      simp
      refine evB_cons ?_
      simp
      refine evB_cons ?_
      simp [w_below_di k (by omega), turnC_put, ho, bi_allL]
    | fence =>
      simp only [dRow, Row.Ok] at ho ⊢
      simp [w_string k (by omega), cs]
      refine evB_cons ?_
      simp
      refine evB_cons ?_
      simp
      refine evB_cons ?_
      simp
      refine evB_cons ?_
      simp [w_below_di k (by omega), turnC_put, ho, bi_allL]
    | fork r l m => simp [Row.dep] at h0
    | loop n l => simp [Row.dep] at h0
  intro n
  induction n with
  | zero =>
    have h : ∀ (r : Row) (k : Nat) (S : List O), r.dep ≤ 0 → 2 * 0 + 5 ≤ k → r.Ok f → r.wid → evF cs T k 50 [dF f, dRow r] S = .ok (.bl true) S := fun r k S h0 hk ho _ => row0 r k S (by omega) (by omega) ho
    exact ⟨h, rows _ h⟩
  | succ n ih =>
    have h : ∀ (r : Row) (k : Nat) (S : List O), r.dep ≤ n + 1 → 2 * (n + 1) + 5 ≤ k → r.Ok f → r.wid → evF cs T k 50 [dF f, dRow r] S = .ok (.bl true) S := by
      intro r k S hd hk ho hw
      by_cases h0 : r.dep = 0
      · exact row0 r k S h0 (by omega) ho
      obtain ⟨k, rfl, hj⟩ := fuel (n := 2 * n + 6) (by omega)
      cases r with
      | op t a b c => exact absurd rfl h0
      | load a b => exact absurd rfl h0
      | store a b => exact absurd rfl h0
      | fence => exact absurd rfl h0
      | loop m l =>
        (refine call_eq (f := f50) rfl rfl ?_; simp only [f50, b50, List.map_cons, List.map_nil, List.replicate_succ, List.replicate_zero, List.cons_append, List.nil_append, Nat.reduceSub])
        refine evB_cons ?_
        simp only [dRow, Row.Ok, Row.wid, Row.dep] at ho hw hd ⊢
        simp [w_string k (by omega), cs]
        refine evB_cons ?_
        have e : (m : Int) < 5 := by omega
        simp [evB_one, cs, w_below_di k (by omega), e, ih.2 l k _ hw.1 (by omega) (by omega) ho.2 hw.2]
      | fork q l m =>
        (refine call_eq (f := f50) rfl rfl ?_; simp only [f50, b50, List.map_cons, List.map_nil, List.replicate_succ, List.replicate_zero, List.cons_append, List.nil_append, Nat.reduceSub])
        refine evB_cons ?_
        simp only [dRow, Row.Ok, Row.wid, Row.dep] at ho hw hd ⊢
        simp [w_string k (by omega), cs]
        refine evB_cons ?_
        simp
        refine evB_cons ?_
        simp [evB_one, w_below_di k (by omega), ho.1, ih.2 l k _ hw.1.1 (by omega) (by omega) ho.2.1 hw.2.1, ih.2 m k _ hw.1.2 (by omega) (by omega) ho.2.2 hw.2.2]
    exact ⟨h, rows _ h⟩
theorem w_need_program (k : Nat) {f : Fr} (hf : f.Ok) {l : List Row} {n : Nat} (hd : rdep l ≤ n) (ho : rowsOk f l) (hw : wids l) (hl : l.length ≤ 1000) (hk : 2 * n + 6 ≤ k) (S : List O) : evF cs T k 36 [dF f, .tup (dRows l)] S = .ok (.tup (dRows l)) S := by
  obtain ⟨k, rfl, hj⟩ := fuel (n := 2 * n + 5) hk
  (refine call_eq (f := f36) rfl rfl ?_; simp only [f36, b36, List.map_cons, List.map_nil, List.replicate_succ, List.replicate_zero, List.cons_append, List.nil_append, Nat.reduceSub])
  refine evB_cons ?_
  simp [w_need_frame k (by omega) hf]
  refine evB_cons ?_
  simp
  refine evB_cons ?_
  simp [dRows_map, enumL_map]
  refine forL_pre l.zipIdx (fun _ σ S' => S' = S ∧ ∃ a b, σ = [some (dF f), some (.tup (l.map dRow)), a, b]) (fun _ _ _ _ => rfl) ?_ ?_ ⟨rfl, _, _, rfl⟩
  · rintro a x b σ _ e ⟨rfl, p, q, rfl⟩
    have m : x ∈ l.zipIdx := by rw [e]; simp
    have m : x.1 ∈ l := List.fst_mem_of_mem_zipIdx m
    rw [forT_put (σ' := [some (dF f), some (.tup (l.map dRow)), some (di x.2), some (dRow x.1)]) _ _ _ _ (by simp)]
    refine evB_cons ?_
    simp [(is_rows hf n).1 x.1 k _ (rdep_le.mp hd _ m) hj (rowsOk_iff.mp ho _ m) (wids_iff.mp hw _ m)]
  · rintro σ _ ⟨rfl, a, b, rfl⟩
    simp
    refine evB_cons ?_
    simp [dRows_map]
/-! loops unrolled -/
theorem w_plain_rows {f : Fr} : ∀ (n : Nat) (l : List Row) (k : Nat) (S : List O), rdep l ≤ n → n + 1 ≤ k → rsz l ≤ 100000 → rowsOk f l → evF cs T k 35 [.tup (dRows l)] S = .ok (.lst (dRows (flat l))) S := by
  intro n
  induction n with
  | zero =>
    intro l k S hd hk hs ho
    obtain ⟨k, rfl, hj⟩ := fuel (n := 0) hk
    (refine call_eq (f := f35) rfl rfl ?_; simp only [f35, b35, List.map_cons, List.map_nil, List.replicate_succ, List.replicate_zero, List.cons_append, List.nil_append, Nat.reduceSub])
    refine evB_cons ?_
    simp
    refine evB_cons ?_
    simp only [eS_for, eI_src, eE_var, List.getElem?_cons_succ, List.getElem?_cons_zero, getV_some, srcOf_tup, ofO_some]
    rw [dRows_map]
    refine forL_pre l (fun a σ S' => S' = S ++ [.lst (dRows (flat a))] ∧ ∃ x, σ = [some (.tup (l.map dRow)), some (.ref S.length), x]) (fun _ _ _ _ => rfl) ?_ ?_ ⟨rfl, _, rfl⟩
    · rintro a r b σ _ e ⟨rfl, x, rfl⟩
      have m : r ∈ l := by rw [e]; simp
      rw [forT_put (σ' := [some (.tup (l.map dRow)), some (.ref S.length), some (dRow r)]) _ _ _ _ (by simp)]
      refine evB_cons ?_
      have dd := rdep_le.mp hd r m
      have ll : (dRows (flat a)).length ≤ 1000000 := by
        have := len_rsz (flat a)
        have := flat_sz a
        rw [e, rsz_append] at hs
        simp; omega
      cases r with
      | fork q u v => simp [Row.dep] at dd
      | loop q u => simp [Row.dep] at dd
      | _ => simp [dRow, evB_one, app0 ll, flat_snoc, flat1]
    · rintro σ _ ⟨rfl, x, rfl⟩
      simp
      refine evB_cons ?_
      simp [fin_new]
  | succ n ih =>
    intro l k S hd hk hs ho
    obtain ⟨k, rfl, hj⟩ := fuel hk
    (refine call_eq (f := f35) rfl rfl ?_; simp only [f35, b35, List.map_cons, List.map_nil, List.replicate_succ, List.replicate_zero, List.cons_append, List.nil_append, Nat.reduceSub])
    refine evB_cons ?_
    simp
    refine evB_cons ?_
    simp only [eS_for, eI_src, eE_var, List.getElem?_cons_succ, List.getElem?_cons_zero, getV_some, srcOf_tup, ofO_some]
    rw [dRows_map]
    refine forL_pre l (fun a σ S' => S' = S ++ [.lst (dRows (flat a))] ∧ ∃ x, σ = [some (.tup (l.map dRow)), some (.ref S.length), x]) (fun _ _ _ _ => rfl) ?_ ?_ ⟨rfl, _, rfl⟩
    · rintro a r b σ _ e ⟨rfl, x, rfl⟩
      have m : r ∈ l := by rw [e]; simp
      rw [forT_put (σ' := [some (.tup (l.map dRow)), some (.ref S.length), some (dRow r)]) _ _ _ _ (by simp)]
      refine evB_cons ?_
      have dd := rdep_le.mp hd r m
      rw [e, rsz_append, rsz] at hs
      have oo := rowsOk_iff.mp ho r m
      have l1 := len_rsz (flat a)
      have l2 := flat_sz a
      have ll : (dRows (flat a)).length ≤ 1000000 := by simp; omega
      cases r with
      | fork q u v =>
        simp only [Row.dep, Row.sz] at dd hs
        have h1 := len_rsz (flat u)
        have h2 := len_rsz (flat v)
        have h3 := flat_sz u
        have h4 := flat_sz v
        simp [dRow, evB_one, app0 ll, flat_snoc, flat1, ih u k _ (by omega) (by omega) (by omega) oo.2.1, ih v k _ (by omega) (by omega) (by omega) oo.2.2]
      | loop q u =>
        simp only [Row.dep, Row.sz, Nat.succ_mul] at dd hs
        have h1 := len_rsz (flat u)
        have h3 := flat_sz u
        have h4 := Nat.mul_le_mul_left q h3
        have h5 := Nat.mul_le_mul_left q h1
        have h6 : (dRows (flat u)).length * q ≤ 1000000 := by simp; rw [Nat.mul_comm]; omega
        have h9 : (List.map List.length (List.replicate q (dRows (flat u)))).sum = q * (flat u).length := by simp
        simp [dRow, evB_one, flat_snoc, flat1, ih u k _ (by omega) (by omega) (by omega) oo.2, bin_mul_lst _ h6 (Nat.le_trans oo.1 (by omega))]
        rw [ext0 (by simp [List.length_flatten, h9] ; omega)]
        simp [dRows_rep, flat_snoc, flat1]
      | _ => simp [dRow, evB_one, app0 ll, flat_snoc, flat1]
    · rintro σ _ ⟨rfl, x, rfl⟩
      simp
      refine evB_cons ?_
      simp [fin_new]
/-! a wrong way -/
section
variable {f : Fr}
def wwI (f : Fr) (l : List Row) (d : Rw) (S : List O) (a : List Row) (σ : Rx.Env) (S' : List O) : Prop :=
  ∃ F d', S' = S ++ [.lst F] ∧ (∃ x y, σ = [some (dF f), some (.tup (dRows l)), some (dR d'), some (.ref S.length), x, y]) ∧ f.Dat d' ∧ F.length ≤ a.length ∧ cleans S.length F = true ∧ ∀ b, l.take f.deep = a ++ b → wr f (l.take f.deep) d = F ++ wr f b d'
theorem w_wrong_way (k : Nat) (hk : 3 ≤ k) (hf : f.Ok) {l : List Row} (ho : rowsOk f l) (hn : noLs l) {d : Rw} (hd : f.Dat d) (S : List O) : evF cs T k 51 [dF f, .tup (dRows l), dR d] S = .ok (.tup (wr f (l.take f.deep) d)) S := by
  obtain ⟨k, rfl, hj⟩ := fuel hk
  (refine call_eq (f := f51) rfl rfl ?_; simp only [f51, b51, List.map_cons, List.map_nil, List.replicate_succ, List.replicate_zero, List.cons_append, List.nil_append, Nat.reduceSub])
  refine evB_cons ?_
  simp
  refine evB_cons ?_
  have eL : List.take f.deep (dRows l) = (l.take f.deep).map dRow := by rw [dRows_map, List.map_take]
  simp only [eS_for, eI_src, eE_slice, eO_nil, eO_one, eE_idx, eE_lit, eE_var, List.getElem?_cons_succ, List.getElem?_cons_zero, getV_some, srcOf_tup, ofO_some, F4, optI_int, sli_tup, cut_to, eL]
  have dl : (l.take f.deep).length ≤ 3 := by
    have := hf.d
    rw [List.length_take]; omega
  refine forL_pre (l.take f.deep) (wwI f l d S) (fun _ _ _ _ => rfl) ?_ ?_ ⟨[], d, rfl, ⟨_, _, rfl⟩, hd, Nat.le_refl _, rfl, fun b e => by rw [e]; rfl⟩
  · rintro a r b σ _ e ⟨F, d', rfl, ⟨x, y, rfl⟩, hd', lF, cF, hw⟩
    have m : r ∈ l := List.mem_of_mem_take (by rw [e]; simp)
    rw [forT_put (σ' := [some (dF f), some (.tup (dRows l)), some (dR d'), some (.ref S.length), some (dRow r), y]) _ _ _ _ (by simp)]
    have oo := rowsOk_iff.mp ho r m
    have nn := noLs_iff.mp hn r m
    have hb := hw _ e
    have la : a.length ≤ 3 := by rw [e] at dl; simp at dl; omega
    have lF2 : F.length ≤ 1000000 := by omega
    have nx : r.ol = true → ∀ b', l.take f.deep = (a ++ [r]) ++ b' → wr f (l.take f.deep) d = (F ++ [wev f r d']) ++ wr f b' (run1 f r d') := by
      intro ol b' e'
      have := hw (r :: b') (by rw [e']; simp)
      rw [this, wr, if_pos ol]; simp
    refine evB_cons ?_
    cases r with
    | op t p q s =>
      simp [dRow, hasD_str2]
      refine evB_cons ?_
      have q1 := w_told_event k (by omega) hf hd' oo rfl nn (S ++ [.lst F])
      have q2 := w_datum_after k (by omega) hf hd' oo rfl nn (S ++ [.lst F])
      simp only [dRow] at q1 q2
      simp [q1]
      refine evB_cons ?_
      simp [q2]
      simp only [evB_one]
      simp [ev, app0 lF2]
      rw [bin_tup _ (by simp)]
      simp [app0 lF2]
      exact ⟨_, _, rfl, ⟨_, _, rfl⟩, run1_ok hf _ _ hd', by simp; omega, by simp [cF], nx rfl⟩
    | load p q =>
      simp [dRow, hasD_str2]
      refine evB_cons ?_
      have q1 := w_told_event k (by omega) hf hd' oo rfl nn (S ++ [.lst F])
      have q2 := w_datum_after k (by omega) hf hd' oo rfl nn (S ++ [.lst F])
      simp only [dRow] at q1 q2
      simp [q1]
      refine evB_cons ?_
      simp [q2]
      simp only [evB_one]
      simp [ev, app0 lF2]
      rw [bin_tup _ (by simp)]
      simp [app0 lF2]
      exact ⟨_, _, rfl, ⟨_, _, rfl⟩, run1_ok hf _ _ hd', by simp; omega, by simp [cF], nx rfl⟩
    | store p q =>
      rw [wr, if_neg (by simp [Row.ol])] at hb
      simp [dRow, hasD_str2, evB_one, tuple_ref get0]
      rw [fin_app (by simp) (by simpa using cF)]
      simp [hb]
    | fence =>
      rw [wr, if_neg (by simp [Row.ol])] at hb
      simp [dRow, hasD_str2, evB_one, tuple_ref get0]
      rw [fin_app (by simp) (by simpa using cF)]
      simp [hb]
    | fork p q s =>
      rw [wr, if_neg (by simp [Row.ol])] at hb
      simp [dRow, hasD_str2, evB_one, tuple_ref get0]
      rw [fin_app (by simp) (by simpa using cF)]
      simp [hb]
    | loop p q => cases nn
  · rintro σ _ ⟨F, d', rfl, ⟨x, y, rfl⟩, hd', lF, cF, hw⟩
    simp
    refine evB_cons ?_
    simp [tuple_ref get0]
    rw [fin_app (by simp) (by simpa using cF)]
    have := hw [] (by simp)
    simp [this, wr]
end
end K66

set_option Elab.async false
set_option autoImplicit false
set_option linter.all false
set_option maxRecDepth 100000
namespace K66
open PySem L2 Rx Pl
section
variable {f : Fr}
def wkI (f : Fr) (l : List Row) (d : Rw) (S : List O) (A : D) (n : Nat) (σ : Rx.Env) (S' : List O) : Prop :=
  ∃ F todo d', S' = S ++ [.lst F, .lst (dRows todo).reverse] ∧ (∃ x y z, σ = [some (dF f), some A, some (dR d'), some (.ref S.length), some (.ref (S.length + 1)), x, y, z, none]) ∧ f.Dat d' ∧ rowsOk f todo ∧ noLs todo ∧ rsz todo = n ∧ F.length + rsz todo ≤ rsz l ∧ cleans S.length F = true ∧ steps f l d = F ++ steps f todo d' ∧ runs f l d = runs f todo d'
theorem w_walked (k : Nat) (hk : 4 ≤ k) (hf : f.Ok) {l : List Row} (ho : rowsOk f l) (hn : noLs l) (hs : rsz l ≤ 100000) {d : Rw} (hd : f.Dat d) (S : List O) : evF cs T k 37 [dF f, .lst (dRows l), dR d] S = .ok (.tup [.tup (steps f l d), dR (runs f l d)]) S := by
  obtain ⟨k, rfl, hj⟩ := fuel hk
  (refine call_eq (f := f37) rfl rfl ?_; simp only [f37, b37, List.map_cons, List.map_nil, List.replicate_succ, List.replicate_zero, List.cons_append, List.nil_append, Nat.reduceSub])
  refine evB_cons ?_
  simp
  have e1 : (dRows l).reverse = l.reverse.map dRow := by rw [dRows_map, List.map_reverse]
  have ll := len_rsz l
  rw [e1, compL_map (enc := dRow) (g := dRow) rfl l.reverse fun x hx => eq_of_wp (by simp [turnC_put])]
  simp [szOk_of (show l.length ≤ 1000000 by omega)]
  refine evB_cons ?_
  rw [← List.map_reverse, ← e1]
  simp only [eS_whl]
  refine whlL_wp (wkI f l d S (.lst (dRows l))) ?_ _ (rsz l) _ _ (by unfold WF; omega) ⟨[], l, d, rfl, ⟨_, _, _, rfl⟩, hd, ho, hn, rfl, by simp, rfl, rfl, rfl⟩
  rintro n σ _ ⟨F, todo, d', rfl, ⟨x, y, z, rfl⟩, hd', ho', hn', hz, hl, hc, hst, hru⟩
  cases todo with
  | nil =>
    simp [len_ref get1]
    refine evB_cons ?_
    simp [tuple_ref get0]
    rw [fin_app (by simp) (by simpa using hc)]
    simp [hst, hru, steps, runs]
  | cons r rest =>
    have lF : F.length ≤ 1000000 := by omega
    have oo := ho'.1
    have nn := hn'.1
    have h1 := row_sz r
    have hrest := len_rsz rest
    have hz2 : r.sz + rsz rest = n := hz
    have hl2 : F.length + (r.sz + rsz rest) ≤ rsz l := hl
    simp [len_ref get1]
    refine evB_cons ?_
    simp [pop1]
    refine evB_cons ?_
    have pl : r.isFork = false → ∀ Q : Fl → List O → Prop, (∀ m σ' S'', m < n → wkI f l d S (.lst (dRows l)) m σ' S'' → Q (.nx σ') S'') → wp (evB (evF cs T k) cs [.asg (.nm 7) (.call 52 [.var 5, .var 2, .idx (.var 0) (.lit (.int 1))]), .asg (.nm 2) (.call 53 [.var 0, .var 7, .var 5, .var 2]), .append (.var 3) (.tup [.var 7, .tup []])] [some (dF f), some (.lst (dRows l)), some (dR d'), some (.ref S.length), some (.ref (S.length + 1)), some (dRow r), y, z, none] (S ++ [.lst F, .lst (dRows rest).reverse])) Q := by
      intro nf Q hQ
      refine evB_cons ?_
      simp [w_told_event k (by omega) hf hd' oo nf nn]
      refine evB_cons ?_
      simp [w_datum_after k (by omega) hf hd' oo nf nn]
      simp only [evB_one]
      simp [app0 lF]
      have hs1 : steps1 f r d' = [.tup [ev f r d', .tup []]] := by
        cases r with
        | loop => exact False.elim nn
        | fork => cases nf
        | _ => rfl
      refine hQ (rsz rest) _ _ (by omega) ⟨F ++ [.tup [ev f r d', .tup []]], rest, run1 f r d', rfl, ⟨_, _, _, rfl⟩, run1_ok hf _ _ hd', ho'.2, hn'.2, rfl, by simp; omega, by simp [hc, ev_clean], ?_, hru⟩
      rw [hst, steps, hs1]; simp
    cases r with
    | op t p q s =>
      simp [dRow]
      exact pl rfl _ fun m σ' S'' h i => by simp; exact ⟨m, h, i⟩
    | load p q =>
      simp [dRow]
      exact pl rfl _ fun m σ' S'' h i => by simp; exact ⟨m, h, i⟩
    | store p q =>
      simp [dRow]
      exact pl rfl _ fun m σ' S'' h i => by simp; exact ⟨m, h, i⟩
    | fence =>
      simp [dRow]
      exact pl rfl _ fun m σ' S'' h i => by simp; exact ⟨m, h, i⟩
    | loop p q => exact False.elim nn
    | fork p u v =>
      have hp : p < f.regs := oo.1
      have hsz : (Row.fork p u v).sz = rsz u + rsz v + 1 := by rw [Row.sz]
      have hu := len_rsz u
      have hv := len_rsz v
      have ro : runs f rest (run1 f (.fork p u v) d') = runs f rest (if gt d' p = 0 then runs f u d' else runs f v d') := by rw [run1]
      simp [dRow]
      refine evB_cons ?_
      simp [reg_get hd' hp]
      refine evB_cons ?_
      by_cases g0 : gt d' p = 0
      · simp [g0, w_wrong_way k (by omega) hf oo.2.2 nn.2 hd', app0 lF]
        simp only [evB_one]
        simp
        have e2 : (dRows u).reverse = u.reverse.map dRow := by rw [dRows_map, List.map_reverse]
        rw [e2, compL_map (enc := dRow) (g := dRow) rfl u.reverse fun x hx => eq_of_wp (by simp [turnC_put])]
        simp [szOk_of (show u.length ≤ 1000000 by omega)]
        rw [ext1 (by simp; omega), ← List.map_reverse, ← e2, ofO_some]
        refine ⟨rsz (u ++ rest), by rw [rsz_append]; omega, F ++ [.tup [.tup [.str "fork", di 0], .tup (wr f (v.take f.deep) d')]], u ++ rest, d', by simp, ⟨_, _, _, rfl⟩, hd', rowsOk_iff.mpr fun r hr => ?_, noLs_iff.mpr fun r hr => ?_, rfl, by rw [rsz_append]; simp; omega, by simp [hc, wr_clean], ?_, ?_⟩
        · rcases List.mem_append.mp hr with h | h
          · exact rowsOk_iff.mp oo.2.1 _ h
          · exact rowsOk_iff.mp ho'.2 _ h
        · rcases List.mem_append.mp hr with h | h
          · exact noLs_iff.mp nn.1 _ h
          · exact noLs_iff.mp hn'.2 _ h
        · rw [hst, steps, steps1, if_pos g0, steps_append, run1, if_pos g0]; simp
        · rw [hru, runs, run1, if_pos g0, runs_append]
      · simp [g0, w_wrong_way k (by omega) hf oo.2.1 nn.1 hd', app0 lF]
        simp only [evB_one]
        simp
        have e2 : (dRows v).reverse = v.reverse.map dRow := by rw [dRows_map, List.map_reverse]
        rw [e2, compL_map (enc := dRow) (g := dRow) rfl v.reverse fun x hx => eq_of_wp (by simp [turnC_put])]
        simp [szOk_of (show v.length ≤ 1000000 by omega)]
        rw [ext1 (by simp; omega), ← List.map_reverse, ← e2, ofO_some]
        refine ⟨rsz (v ++ rest), by rw [rsz_append]; omega, F ++ [.tup [.tup [.str "fork", di 1], .tup (wr f (u.take f.deep) d')]], v ++ rest, d', by simp, ⟨_, _, _, rfl⟩, hd', rowsOk_iff.mpr fun r hr => ?_, noLs_iff.mpr fun r hr => ?_, rfl, by rw [rsz_append]; simp; omega, by simp [hc, wr_clean], ?_, ?_⟩
        · rcases List.mem_append.mp hr with h | h
          · exact rowsOk_iff.mp oo.2.2 _ h
          · exact rowsOk_iff.mp ho'.2 _ h
        · rcases List.mem_append.mp hr with h | h
          · exact noLs_iff.mp nn.2 _ h
          · exact noLs_iff.mp hn'.2 _ h
        · rw [hst, steps, steps1, if_neg g0, steps_append, run1, if_neg g0]; simp
        · rw [hru, runs, run1, if_neg g0, runs_append]
end
end K66

set_option Elab.async false
set_option autoImplicit false
set_option linter.all false
set_option maxRecDepth 100000
namespace K66
open PySem L2 Rx Pl
section
variable {f : Fr}
theorem w_is_let (k : Nat) (hk : 1 ≤ k) {lot a b : Rw} (ha : a.length ≤ 60) (hb : b.length ≤ 60) (S : List O) : evF cs T k 43 [dR lot, dR a, dR b] S = .ok (.bl (isLet lot a b)) S := by
  obtain ⟨k, rfl, hj⟩ := fuel hk
  (refine call_eq (f := f43) rfl rfl ?_; simp only [f43, b43, List.map_cons, List.map_nil, List.replicate_succ, List.replicate_zero, List.cons_append, List.nil_append, Nat.reduceSub])
  refine evB_cons ?_
  have z0 : hasD S (.int 0) (dR lot) = some (decide (0 ∈ lot)) := hasD_di_dR S 0 lot
  have z1 : hasD S (.int 1) (dR lot) = some (decide (1 ∈ lot)) := hasD_di_dR S 1 lot
  simp [enumL, turnC_put, z0, z1, lenset_dR _ ha, lenset_dR _ hb]
  by_cases h0 : 0 ∈ lot <;> by_cases h1 : 1 ∈ lot <;> simp [enumL, turnC_put, z0, z1, lenset_dR _ ha, lenset_dR _ hb, h0, h1, bi_allL, isLet, cst]
theorem w_answer_row (k : Nat) (hk : 1 ≤ k) (hf : f.Ok) {t : Nat} (ht : t < f.tabs.length) {n : Nat} (hn : n ≤ 1000) {a b : Rw} (ha : RwOk f.size n a) (hb : RwOk f.size n b) (S : List O) : evF cs T k 44 [dF f, di t, dR a, dR b] S = .ok (dR (ans f t a b)) S := by
  obtain ⟨k, rfl, hj⟩ := fuel hk
  have s3 := hf.s3
  (refine call_eq (f := f44) rfl rfl ?_; simp only [f44, b44, List.map_cons, List.map_nil, List.replicate_succ, List.replicate_zero, List.cons_append, List.nil_append, Nat.reduceSub])
  refine evB_cons ?_
  simp [zip2L_map]
  rw [compL_map (enc := fun p : Nat × Nat => D.tup [di p.1, di p.2]) (g := fun p => di (f.ask t p.1 p.2)) rfl (a.zip b) fun p hp => eq_of_wp (by
    have h1 := ha.2 _ (List.of_mem_zip hp).1
    have h2 := hb.2 _ (List.of_mem_zip hp).2
    obtain ⟨w, h3, h4⟩ := ask_get hf ht h1 h2
    have e : (p.1 : Int) * (f.size : Int) + (p.2 : Int) = ((p.1 * f.size + p.2 : Nat) : Int) := by simp
    rw [turnC_put (σ' := [some (dF f), some (di t), some (dR a), some (dR b), some (di p.1), some (di p.2)]) _ _ _ _ (by simp)]
    simp only [eIfs_nil, ifB_t, eE_idx, eE_var, eE_lit, eE_bin, List.getElem?_cons_succ, List.getElem?_cons_zero, getV_some, F3, F0, ofO_some, idx_tup, Rx.atI_nat, List.getElem?_map, h3, Option.map_some, bin_mul _ (mulOk_le _ (show p.1 ≤ 1000000 by omega)), bin_add, e, idx_dR, h4]
    simp)]
  have z : szOk (min a.length b.length) = true := szOk_of (by have := ha.1; omega)
  simp [z]
  have e : (a.zip b).map (fun p => di (f.ask t p.1 p.2)) = (ans f t a b).map di := by simp [ans]
  rw [e]
  show wp (fin true S.length S (dR (ans f t a b)) S) _
  simp
theorem comp_col (k : Nat) (data : List Rw) (hd : ∀ d ∈ data, f.Dat d) {s : Nat} (hs : s < f.regs) {src : Src} (S : List O) (st : src.still S = true) (σ : Rx.Env) (i j : Nat) (hi : i < σ.length) (hj : j < σ.length) (hij : i ≠ j) (hσ : σ[j]? = some (some (di s))) :
    compL src (turnC (evF cs T k) cs σ [i] (.idx (.var i) (.var j)) (.nm i) []) (data.map dR) S = .ok ((col data s).map di) S := by
  rw [compL_map (enc := dR) (g := fun d => di (gt d s)) st data fun d h => eq_of_wp (by
    rw [turnC_put (σ' := (σ.set i none).set i (some (dR d))) _ _ _ _ (by simp)]
    have e1 : ((σ.set i none).set i (some (dR d)))[i]? = some (some (dR d)) := by simp [hi]
    have e2 : ((σ.set i none).set i (some (dR d)))[j]? = some (some (di s)) := by simp [hij, hσ]
    simp only [eIfs_nil, ifB_t, eE_idx, eE_var, e1, e2, getV_some, idx_dR, Rx.atI_nat, reg_get (hd d h) hs, Option.map_some, ofO_some]
    simp)]
  simp [col]
theorem w_wanted_rows (k : Nat) (hf : f.Ok) {l : List Row} {n : Nat} (hd : rdep l ≤ n) (ho : rowsOk f l) (hw : wids l) (hs : rsz l ≤ 100000) (hl : l.length ≤ 1000) (hk : 2 * n + 8 ≤ k) {data : List Rw} (hdat : ∀ d ∈ data, f.Dat d) (hdl : data.length ≤ 1000) (S : List O) : evF cs T k 17 [dF f, .tup (data.map dR), .tup (dRows l)] S = .ok (.lst ((wanted f l data).map dR)) S := by
  obtain ⟨k, rfl, hj⟩ := fuel (n := 2 * n + 7) hk
  have r4 := hf.r4
  have fo := flat_ok l ho
  have fo1 : rowsOk f (flat l) := rowsOk_iff.mpr fun r hr => (fo r hr).1
  have fo2 : noLs (flat l) := noLs_iff.mpr fun r hr => (fo r hr).2
  have fs := flat_sz l
  have ll := len_rsz l
  (refine call_eq (f := f17) rfl rfl ?_; simp only [f17, b17, List.map_cons, List.map_nil, List.replicate_succ, List.replicate_zero, List.cons_append, List.nil_append, Nat.reduceSub])
  refine evB_cons ?_
  simp only [eS_asg, eE_call, eEs_cons, eEs_nil, eE_var, List.getElem?_cons_succ, List.getElem?_cons_zero, getV_some, w_need_program k hf hd ho hw hl (by omega), wp_ok, w_plain_rows n l k _ hd (by omega) hs ho]
  simp
  refine evB_cons ?_
  simp
  rw [compL_map (enc := dR) (g := fun d => dR (runs f (flat l) d)) rfl data fun d h => eq_of_wp (by
    simp [turnC_put, w_walked k (by omega) hf fo1 fo2 (by omega) (hdat d h)])]
  have z1 : szOk data.length = true := szOk_of (by omega)
  simp [z1]
  refine evB_cons ?_
  have z2 : rngD [di f.regs] = some ((List.range f.regs).map di) := rngD_nat (by omega)
  simp [z2]
  rw [compL_map (enc := di) (g := fun s => dR (col (data.map (runs f (flat l))) s)) rfl (List.range f.regs) fun s h => eq_of_wp (by
    have hs : s < f.regs := List.mem_range.mp h
    rw [turnC_put (σ' := [some (dF f), some (.tup (data.map dR)), some (.tup (dRows l)), some (.lst (dRows (flat l))), some (.lst (data.map fun d => dR (runs f (flat l) d))), none, some (di s), none]) _ _ _ _ (by simp)]
    simp
    rw [show (data.map fun d => dR (runs f (flat l) d)) = (data.map (runs f (flat l))).map dR by simp]
    rw [comp_col k _ (fun d h => by
      obtain ⟨q, h', rfl⟩ := List.mem_map.mp h
      exact runs_ok hf _ _ (hdat q h')) hs S (by simp) _ 7 6 (by simp) (by simp) (by omega) (by simp)]
    have z4 : szOk (col (data.map (runs f (flat l))) s).length = true := szOk_of (by simp [col]; omega)
    simp [z4]
    rfl)]
  have z3 : szOk f.regs = true := szOk_of (by omega)
  simp [z3]
  rw [fin_same (by simp; exact cleans_map _ fun x _ => by simp)]
  simp [wanted, begins]
end
end K66

set_option Elab.async false
set_option autoImplicit false
set_option linter.all false
set_option maxRecDepth 100000
namespace K66
open PySem L2 Rx Pl
section
variable {f : Fr}
/-! ### what is had in silence -/
def insS (f : Fr) (lot : Rw) (n : Nat) (w : Nat) : O := .ins 0 [("frame", dF f), ("lot", dR lot), ("rows", .ref n), ("ways", .ref w)]
theorem w_init (k : Nat) (hk : 1 ≤ k) (hf : f.Ok) {lot : Rw} {data : List Rw} (hdat : ∀ d ∈ data, f.Dat d) (hdl : data.length ≤ 1000) (S0 : List O) :
    evF cs T k 18 [.ref S0.length, dF f, dR lot, .tup (data.map dR)] (S0 ++ [.ins 0 []]) = .ok .non (S0 ++ [insS f lot (S0.length + 1) (S0.length + 2), .lst ((begins f data).map dR), .dict (kvM wayD (((begins f data).foldl addN []).map fun r => (r, none)))]) := by
  obtain ⟨k, rfl, hj⟩ := fuel hk
  have r4 := hf.r4
  refine eq_of_wp ?_
  (refine call_wp (f := f18) rfl rfl ?_; simp only [f18, b18, List.map_cons, List.map_nil, List.replicate_succ, List.replicate_zero, List.cons_append, List.nil_append, Nat.reduceSub])
  refine evB_cons ?_
  simp [attrS_of get0, putD_nil, putD_cons]
  refine evB_cons ?_
  have z2 : rngD [di f.regs] = some ((List.range f.regs).map di) := rngD_nat (by omega)
  simp [z2]
  rw [compL_map (enc := di) (g := fun s => dR (col data s)) rfl (List.range f.regs) fun s h => eq_of_wp (by
    have hs : s < f.regs := List.mem_range.mp h
    rw [turnC_put (σ' := [some (.ref S0.length), some (dF f), some (dR lot), some (.tup (data.map dR)), some (di s), none, none]) _ _ _ _ (by simp)]
    simp
    rw [comp_col k _ hdat hs _ (by simp) _ 6 4 (by simp) (by simp) (by omega) (by simp)]
    have z4 : szOk (col data s).length = true := szOk_of (by simp [col]; omega)
    simp [z4]
    rfl)]
  have z3 : szOk f.regs = true := szOk_of (by omega)
  simp [z3]
  rw [attrS_of get0 _ _ (by simp)]
  simp [putD_cons, putD_nil]
  rw [show (List.range f.regs).map (fun s => dR (col data s)) = (begins f data).map dR by simp [begins]]
  refine evB_cons ?_
  simp
  rw [attr_of get0]
  simp
  rw [srcOf_ref get1]
  simp
  have bl : (begins f data).length ≤ 4 := by simp [begins]; exact r4
  refine compL_wp0 (fun acc r S => ∃ a b, begins f data = a ++ b ∧ r = b.map dR ∧ S = S0 ++ [.ins 0 [("frame", dF f), ("lot", dR lot), ("rows", .ref (S0.length + 1))], .lst ((begins f data).map dR), .dict (kvM wayD ((a.foldl addN []).map fun r => (r, none)))]) ⟨[], begins f data, rfl, rfl, rfl⟩ ?_ ?_ ?_
  · rintro acc r S ⟨a, b, e1, e2, rfl⟩
    exact still_at get1
  · rintro acc d r S ⟨a, b, e1, e2, rfl⟩
    cases b with
    | nil => cases e2
    | cons x b =>
      rw [List.map_cons] at e2
      injection e2 with e2 e3
      subst e2
      simp
      have al : (a.foldl addN []).length ≤ 1000000 := by
        obtain ⟨e, p1, p2, p3, p4, p5⟩ := foldl_addN a []
        have := nodup_len e a p2 p4
        have : (begins f data).length = (a ++ x :: b).length := by rw [e1]
        rw [p1]; simp at this ⊢; omega
      by_cases m : x ∈ a.foldl addN []
      · rw [dput_same wayD get2 .non (by simp [wayD]) (by rw [lookup_isSome]; simpa using m) (by simpa using al)]
        simp
        refine ⟨a ++ [x], b, by simp [e1], e3, ?_⟩
        simp [List.foldl_append, addN, m]
      · rw [show D.non = wayD none from rfl, dput_new wayD get2 (r := x) (lk_none (by simpa using m)) (by simpa using al) none]
        simp
        refine ⟨a ++ [x], b, by simp [e1], e3, ?_⟩
        simp [List.foldl_append, addN, m]
  · rintro acc S ⟨a, b, e1, e2, rfl⟩
    cases b with
    | cons x b => cases e2
    | nil =>
      rw [List.append_nil] at e1
      subst e1
      simp
      rw [attrS_of get0 _ _ (by simp)]
      simp [putD_cons, putD_nil]
      rw [fin_keepN (by simp)]
      · simp [insS]
      · have e : ∀ a b c : O, (S0 ++ [a, b, c]).take (S0.length + 1) = S0 ++ [a] := fun a b c => by
          rw [List.take_append, List.take_of_length_le (by omega)]; simp
        rw [e, tidy_app _ _ _ _ _ rfl]
        simp [tidy, O.beq, O.clean]
theorem waysOf_nil (b : List Rw) : waysOf b [] = b.map fun r => (r, none) := by simp [waysOf]
/-- the store while rows grow -/
def silS (f : Fr) (lot : Rw) (b : List Rw) (S0 : List O) (X : O) (e : List Ent) : List O := S0 ++ [insS f lot (S0.length + 3) (S0.length + 2), X, .dict (kvM wayD (waysOf b e)), .lst ((rowsOfE b e).map dR)]
theorem w_has_all (k : Nat) (hk : 1 ≤ k) {S : List O} {n m i : Nat} {lot : Rw} {b : List Rw} {e : List Ent} (h0 : S[n]? = some (insS f lot i m)) (h1 : S[m]? = some (.dict (kvM wayD (waysOf b e)))) (w : List Rw) (hw : w.length ≤ 1000) :
    evF cs T k 20 [.ref n, .lst (w.map dR)] S = .ok (.bl (w.all fun r => decide (r ∈ keysOf b e))) S := by
  obtain ⟨k, rfl, hj⟩ := fuel hk
  (refine call_eq (f := f20) rfl rfl ?_; simp only [f20, b20, List.map_cons, List.map_nil, List.replicate_succ, List.replicate_zero, List.cons_append, List.nil_append, Nat.reduceSub])
  refine evB_cons ?_
  simp
  have z : szOk w.length = true := szOk_of (by omega)
  rw [compL_map (enc := dR) (g := fun r => .bl (decide (r ∈ keysOf b e))) rfl w fun r hr => eq_of_wp (by
    simp [turnC_put]
    rw [attr_of h0]
    simp
    rw [dget_dR wayD h1]
    simp [lookup_isSome, waysOf_keys])]
  simp [z]
theorem silS_get0 {lot : Rw} {b : List Rw} {S0 : List O} {X : O} {e : List Ent} : (silS f lot b S0 X e)[S0.length]? = some (insS f lot (S0.length + 3) (S0.length + 2)) := get0
theorem silS_get2 {lot : Rw} {b : List Rw} {S0 : List O} {X : O} {e : List Ent} : (silS f lot b S0 X e)[S0.length + 2]? = some (.dict (kvM wayD (waysOf b e))) := get2
theorem silS_get3 {lot : Rw} {b : List Rw} {S0 : List O} {X : O} {e : List Ent} : (silS f lot b S0 X e)[S0.length + 3]? = some (.lst ((rowsOfE b e).map dR)) := get3
theorem silS_len {lot : Rw} {b : List Rw} {S0 : List O} {X : O} {e : List Ent} : (silS f lot b S0 X e).length = S0.length + 4 := by simp [silS]
theorem silS_tidy {lot : Rw} {b : List Rw} {S0 : List O} {X : O} {e e' : List Ent} (n : Nat) : tidy n (silS f lot b S0 X e') (silS f lot b S0 X e) = true := by
  unfold silS
  rw [tidy_app _ _ _ _ _ rfl, tidy_self]
  simp [tidy, O.beq_self, kv_clean]
  right
  simp only [O.clean]
  exact cleans_dR n _
theorem attr_ins {S : List O} {n i w : Nat} {lot : Rw} (h : S[n]? = some (insS f lot i w)) : attrD S (.ref n) (Str.ofString "frame") = some (dF f) ∧ attrD S (.ref n) (Str.ofString "lot") = some (dR lot) ∧ attrD S (.ref n) (Str.ofString "rows") = some (.ref i) ∧ attrD S (.ref n) (Str.ofString "ways") = some (.ref w) := by
  refine ⟨?_, ?_, ?_, ?_⟩ <;> rw [attr_of h] <;> simp
theorem w_put_answers (k : Nat) (hk : 2 ≤ k) (hf : f.Ok) {lot : Rw} {b : List Rw} {S0 : List O} {X : O} {e : List Ent} {n : Nat} (hn : n ≤ 60) {x y : Rw} (hx : RwOk f.size n x) (hy : RwOk f.size n y) (hl : b.length + e.length ≤ 100000) :
    evF cs T k 38 [.ref S0.length, dR x, dR y] (silS f lot b S0 X e) = .ok .non (silS f lot b S0 X (putA f lot b e x y)) := by
  obtain ⟨k, rfl, hj⟩ := fuel hk
  have t4 := hf.t4
  refine eq_of_wp ?_
  (refine call_wp (f := f38) rfl rfl ?_; simp only [f38, b38, List.map_cons, List.map_nil, List.replicate_succ, List.replicate_zero, List.cons_append, List.nil_append, Nat.reduceSub])
  refine evB_cons ?_
  obtain ⟨a1, a2, a3, a4⟩ := attr_ins (silS_get0 (f := f) (lot := lot) (b := b) (S0 := S0) (X := X) (e := e))
  have xl := hx.1
  have yl := hy.1
  simp [a2, w_is_let k (by omega) (show x.length ≤ 60 by omega) (show y.length ≤ 60 by omega)]
  by_cases il : isLet lot x y = true
  · simp [il, evB_one, a1]
    have z2 : rngD [di f.tabs.length] = some ((List.range f.tabs.length).map di) := rngD_nat (by omega)
    simp [z2]
    refine forL_pre (List.range f.tabs.length) (fun a σ S => S = silS f lot b S0 X (a.foldl (putT f b x y) e) ∧ ∃ p q, σ = [some (.ref S0.length), some (dR x), some (dR y), p, q]) (fun _ _ _ _ => rfl) ?_ ?_ ⟨rfl, _, _, rfl⟩
    · rintro a t c σ _ ea ⟨rfl, p, q, rfl⟩
      have ht : t < f.tabs.length := List.mem_range.mp (by rw [ea]; simp)
      have al : a.length ≤ 4 := by
        have := congrArg List.length ea
        simp at this; omega
      have el := putT_len f b x y a e
      generalize he : a.foldl (putT f b x y) e = e1 at *
      rw [forT_put (σ' := [some (.ref S0.length), some (dR x), some (dR y), some (di t), q]) _ _ _ _ (by simp)]
      obtain ⟨a1, a2, a3, a4⟩ := attr_ins (silS_get0 (f := f) (lot := lot) (b := b) (S0 := S0) (X := X) (e := e1))
      refine evB_cons ?_
      simp [a1, w_answer_row k (by omega) hf ht (show n ≤ 1000 by omega) hx hy]
      refine evB_cons ?_
      simp [a4, dget_dR wayD silS_get2, lookup_isNone, waysOf_keys, he]
      by_cases m : ans f t x y ∈ keysOf b e1
      · simp [m]
        rw [putT, he, if_pos m]
      · simp [m]
        refine evB_cons ?_
        simp [a4]
        rw [show D.tup [di t, dR x, dR y] = wayD (some (t, x, y)) from rfl, dput_new wayD silS_get2 (lk_none (by rw [waysOf_keys]; exact m)) (by rw [waysOf_len]; omega)]
        simp [evB_one]
        have s1 : (silS f lot b S0 X e1).set (S0.length + 2) (.dict (kvM wayD (waysOf b e1 ++ [(ans f t x y, some (t, x, y))]))) = S0 ++ [insS f lot (S0.length + 3) (S0.length + 2), X, .dict (kvM wayD (waysOf b e1 ++ [(ans f t x y, some (t, x, y))])), .lst ((rowsOfE b e1).map dR)] := by
          unfold silS; rw [set2]
        rw [s1]
        obtain ⟨b1, b2, b3, b4⟩ := attr_ins (S := S0 ++ [insS f lot (S0.length + 3) (S0.length + 2), X, .dict (kvM wayD (waysOf b e1 ++ [(ans f t x y, some (t, x, y))])), .lst ((rowsOfE b e1).map dR)]) (f := f) (lot := lot) (n := S0.length) get0
        simp [b3, isLD_of get3]
        rw [appD_of get3 (by simp [rowsOf_len, keysOf]; omega), set3]
        simp [he]
        rw [putT, if_neg m]
        simp [silS, waysOf_snoc, rowsOf_app]
    · rintro σ _ ⟨rfl, p, q, rfl⟩
      simp
      have := fin_chgN (S := silS f lot b S0 X e) (S' := silS f lot b S0 X ((List.range f.tabs.length).foldl (putT f b x y) e)) (X := []) (d := .non) rfl (by rw [silS_len, silS_len]) (silS_tidy _) (by simp) rfl
      rw [List.append_nil] at this
      rw [this]
      simp [putA, il]
  · simp [il, putA]
end
end K66

set_option Elab.async false
set_option autoImplicit false
set_option linter.all false
set_option maxRecDepth 100000
namespace K66
open PySem L2 Rx Pl
section
variable {f : Fr}
theorem ch_len (hf : f.Ok) {lot : Rw} {b : List Rw} {n : Nat} (hn : n ≤ 4) (hb : b.Nodup) (hr : ∀ r ∈ b, RwOk f.size n r) {e : List Ent} (h : Ch f lot b e) : (keysOf b e).length ≤ 81 := by
  have h1 := rows_len (h.nodup hb) (h.ok hf hr)
  have h2 : f.size ^ n ≤ 3 ^ 4 := Nat.le_trans (Nat.pow_le_pow_left hf.s3 n) (Nat.pow_le_pow_right (by omega) hn)
  omega
theorem foldG_pre (lot : Rw) (b : List Rw) (y : Rw) : ∀ (xs : List Rw) (e : List Ent), ∃ e', xs.foldl (growRow f lot b y) e = e ++ e'
  | [], e => ⟨[], by simp⟩
  | x :: xs, e => by
    obtain ⟨e1, p1⟩ := putA_pre f lot b e x y
    obtain ⟨e2, p2⟩ := putA_pre f lot b (putA f lot b e x y) y x
    obtain ⟨e3, p3⟩ := foldG_pre lot b y xs (growRow f lot b y e x)
    exact ⟨e1 ++ e2 ++ e3, by rw [List.foldl_cons, p3]; unfold growRow; rw [p2, p1]; simp⟩
theorem meth_ins {S : List O} {n i w : Nat} {lot : Rw} (h : S[n]? = some (insS f lot i w)) : methD S (.ref n) 0 (Str.ofString "has_all") = true ∧ methD S (.ref n) 0 (Str.ofString "put_answers") = true ∧ methD S (.ref n) 0 (Str.ofString "grow") = true := by
  refine ⟨?_, ?_, ?_⟩ <;> exact mthd_of h _ (by simp)
def gwI (f : Fr) (lot : Rw) (b : List Rw) (S0 : List O) (X : O) (w : List Rw) (m : Nat) (σ : Rx.Env) (S : List O) : Prop :=
  ∃ e at_, m + at_ = 100 ∧ GI f lot b at_ e ∧ S = silS f lot b S0 X e ∧ ∃ p, σ = [some (.ref S0.length), some (.lst (w.map dR)), some (di at_), p]
theorem w_grow (k : Nat) (hk : 3 ≤ k) (hf : f.Ok) {lot : Rw} {b : List Rw} {S0 : List O} {X : O} {n : Nat} (h1 : 1 ≤ n) (h4 : n ≤ 4) (hb : b.Nodup) (hr : ∀ r ∈ b, RwOk f.size n r) (w : List Rw) (hw : w.length ≤ 1000) :
    wp (evF cs T k 19 [.ref S0.length, .lst (w.map dR)] (S0 ++ [insS f lot (S0.length + 1) (S0.length + 2), X, .dict (kvM wayD (waysOf b []))])) fun d S' => d = .non ∧ ∃ e at_, GI f lot b at_ e ∧ S' = silS f lot b S0 X e ∧ (at_ = (rowsOfE b e).length ∨ ∀ r ∈ w, r ∈ keysOf b e) := by
  obtain ⟨k, rfl, hj⟩ := fuel hk
  (refine call_wp (f := f19) rfl rfl ?_; simp only [f19, b19, List.map_cons, List.map_nil, List.replicate_succ, List.replicate_zero, List.cons_append, List.nil_append, Nat.reduceSub])
  have ne : ∀ r ∈ b, r ≠ [] := fun r h e => by
    have := (hr r h).1
    rw [e] at this; simp at this; omega
  refine evB_cons ?_
  obtain ⟨a1, a2, a3, a4⟩ := attr_ins (S := S0 ++ [insS f lot (S0.length + 1) (S0.length + 2), X, .dict (kvM wayD (waysOf b []))]) (f := f) (lot := lot) (n := S0.length) get0
  simp [a4, keysD_dR wayD get2]
  rw [show (waysOf b []).map (dR ∘ fun x => x.fst) = b.map dR by simp [waysOf, Function.comp_def], sortD_dR ne]
  simp [insS, attrS_of get0, putD_cons]
  rw [evB_one]
  simp only [eS_whl]
  refine whlL_wp (gwI f lot b S0 X w) ?_ _ 100 _ _ (by unfold WF; omega) ⟨[], 0, by omega, GI.zero f lot b, by simp [silS, insS, rowsOfE], _, rfl⟩
  rintro m σ _ ⟨e, at_, hm, gi, rfl, p, rfl⟩
  obtain ⟨a1, a2, a3, a4⟩ := attr_ins (silS_get0 (f := f) (lot := lot) (b := b) (S0 := S0) (X := X) (e := e))
  have cl := ch_len hf h4 hb hr gi.ch
  have le := gi.le
  have rl := rowsOf_len b e
  have fine : (at_ = (rowsOfE b e).length ∨ ∀ r ∈ w, r ∈ keysOf b e) → wp (fin true (S0.length + 3) (S0 ++ [insS f lot (S0.length + 1) (S0.length + 2), X, .dict (kvM wayD (waysOf b []))]) .non (silS f lot b S0 X e)) fun d S' => d = .non ∧ ∃ e at_, GI f lot b at_ e ∧ S' = silS f lot b S0 X e ∧ (at_ = (rowsOfE b e).length ∨ ∀ r ∈ w, r ∈ keysOf b e) := by
    intro h
    rw [fin_keepN (by simp)]
    · rw [wp_ok]; exact ⟨rfl, e, at_, gi, rfl, h⟩
    · unfold silS
      rw [show (S0 ++ [insS f lot (S0.length + 3) (S0.length + 2), X, .dict (kvM wayD (waysOf b e)), .lst ((rowsOfE b e).map dR)]).take (S0.length + 3) = S0 ++ [insS f lot (S0.length + 3) (S0.length + 2), X, .dict (kvM wayD (waysOf b e))] by
        rw [List.take_append, List.take_of_length_le (by omega)]; simp, tidy_app _ _ _ _ _ rfl]
      simp [tidy, insS, O.beq, O.clean, beqs, D.beq]
  rw [whlC_wp]
  simp [a3, len_ref silS_get3]
  by_cases c : at_ < (rowsOfE b e).length
  · have c2 : (at_ : Int) < ((rowsOfE b e).length : Nat) := by omega
    obtain ⟨m1, m2, m3⟩ := meth_ins (silS_get0 (f := f) (lot := lot) (b := b) (S0 := S0) (X := X) (e := e))
    simp [c, m1, w_has_all k (by omega) silS_get0 silS_get2 w hw]
    by_cases ha : ∀ r ∈ w, r ∈ keysOf b e
    · rw [if_neg (by simpa using ha)]
      exact fine (.inr ha)
    · rw [if_pos (by simpa using ha)]
      obtain ⟨y, hy⟩ : ∃ y, (rowsOfE b e)[at_]? = some y := ⟨_, List.getElem?_eq_getElem c⟩
      refine evB_cons ?_
      simp [a3, sli_ref silS_get3, cut_to1]
      rw [← List.map_take]
      have my : y ∈ keysOf b e := mem_rowsOf.mp (List.mem_of_getElem? hy)
      refine forL_pre ((rowsOfE b e).take (at_ + 1)) (fun a σ S => S = silS f lot b S0 X (a.foldl (growRow f lot b y) e) ∧ ∃ p, σ = [some (.ref S0.length), some (.lst (w.map dR)), some (di at_), p]) (fun _ _ _ _ => rfl) ?_ ?_ ⟨rfl, _, rfl⟩
      · rintro a x z σ _ ea ⟨rfl, p, rfl⟩
        have ma : ∀ q ∈ a ++ [x], q ∈ keysOf b e := fun q hq => mem_rowsOf.mp (List.mem_of_mem_take (i := at_ + 1) (by rw [ea]; simp at hq ⊢; rcases hq with h | h <;> simp [h]))
        obtain ⟨g1, ⟨e', g2⟩, _⟩ := growRow_fold a e gi.ch (fun q hq => ma q (by simp [hq])) my
        generalize he : a.foldl (growRow f lot b y) e = e1 at *
        have hx : x ∈ keysOf b e1 := by rw [g2, keysOf_app]; simp [ma x (by simp)]
        have hy1 : y ∈ keysOf b e1 := by rw [g2, keysOf_app]; simp [my]
        have ry : (rowsOfE b e1)[at_]? = some y := by rw [g2, rowsOf_app, List.getElem?_append_left c, hy]
        have ok1 := g1.ok hf hr
        have cl1 := ch_len hf h4 hb hr g1
        have c2 := putA_ch g1 hx hy1
        obtain ⟨e2, p2⟩ := putA_pre f lot b e1 x y
        have ry2 : (rowsOfE b (putA f lot b e1 x y))[at_]? = some y := by rw [p2, rowsOf_app, List.getElem?_append_left (List.getElem?_eq_some_iff.mp ry).1, ry]
        have cl2 := ch_len hf h4 hb hr c2
        rw [forT_put (σ' := [some (.ref S0.length), some (.lst (w.map dR)), some (di at_), some (dR x)]) _ _ _ _ (by simp)]
        obtain ⟨a1, a2, a3, a4⟩ := attr_ins (silS_get0 (f := f) (lot := lot) (b := b) (S0 := S0) (X := X) (e := e1))
        obtain ⟨m1, m2, m3⟩ := meth_ins (silS_get0 (f := f) (lot := lot) (b := b) (S0 := S0) (X := X) (e := e1))
        refine evB_cons ?_
        simp [a3, m2, idx_ref silS_get3, ry, w_put_answers k (by omega) hf (show n ≤ 60 by omega) (ok1 x hx) (ok1 y hy1) (show b.length + e1.length ≤ 100000 by simp [keysOf] at cl1; omega)]
        obtain ⟨a1, a2, a3, a4⟩ := attr_ins (silS_get0 (f := f) (lot := lot) (b := b) (S0 := S0) (X := X) (e := putA f lot b e1 x y))
        obtain ⟨m1, m2, m3⟩ := meth_ins (silS_get0 (f := f) (lot := lot) (b := b) (S0 := S0) (X := X) (e := putA f lot b e1 x y))
        rw [evB_one]
        simp [a3, m2, idx_ref silS_get3, ry2, w_put_answers k (by omega) hf (show n ≤ 60 by omega) (ok1 y hy1) (ok1 x hx) (show b.length + (putA f lot b e1 x y).length ≤ 100000 by simp [keysOf] at cl2; omega)]
        rw [he]; rfl
      · rintro σ _ ⟨rfl, p, rfl⟩
        simp
        rw [evB_one]
        simp [augD]
        refine ⟨m - 1, by omega, _, at_ + 1, by omega, gi.step hy, rfl, _, rfl⟩
  · simp [c]
    exact fine (.inl (by omega))
end
end K66

set_option Elab.async false
set_option autoImplicit false
set_option linter.all false
set_option maxRecDepth 100000
namespace K66
open PySem L2 Rx Pl
section
variable {f : Fr}
def s1I (f : Fr) (data : List Rw) (n : Nat) (w : List Rw) (S : List O) (a : List Nat) (σ : Rx.Env) (S' : List O) : Prop :=
  ∃ nd, NP nd (a.map (col data)) ∧ nd.length ≤ a.length ∧ S' = S ++ [.dict (kvM di nd), .lst []] ∧ ∃ p, σ = [some (dF f), some (.tup (data.map dR)), some (.ref n), some (.lst (w.map dR)), some (.ref S.length), some (.ref (S.length + 1)), p, none, none, none, none, none]
def s2I (f : Fr) (data : List Rw) (n : Nat) (w : List Rw) (b : List Rw) (e : List Ent) (S : List O) (a : List Rw) (σ : Rx.Env) (S' : List O) : Prop :=
  ∃ nd, NP nd (allN f data (e.take (a.length - b.length))) ∧ nd.length ≤ 4 + a.length ∧ S' = S ++ [.dict (kvM di nd), .lst ((e.take (a.length - b.length)).map (stepD (allN f data e)))] ∧ ∃ p q r t u, σ = [some (dF f), some (.tup (data.map dR)), some (.ref n), some (.lst (w.map dR)), some (.ref S.length), some (.ref (S.length + 1)), p, q, r, t, u, none]
theorem w_steps_to (k : Nat) (hk : 1 ≤ k) (hf : f.Ok) {lot : Rw} {data : List Rw} (hdat : ∀ d ∈ data, f.Dat d) (hdl : data.length ≤ 1000) {e : List Ent} (hc : Ch f lot (dedup (begins f data)) e) (he : e.length ≤ 1000)
    {S : List O} {n i m : Nat} (h0 : S[n]? = some (insS f lot i m)) (hi : S[i]? = some (.lst ((rowsOfE (dedup (begins f data)) e).map dR))) (hm : S[m]? = some (.dict (kvM wayD (waysOf (dedup (begins f data)) e))))
    {w : List Rw} (hw : w.length ≤ 1000) (hwk : ∀ r ∈ w, r ∈ keysOf (dedup (begins f data)) e) :
    evF cs T k 21 [dF f, .tup (data.map dR), .ref n, .lst (w.map dR)] S = .ok (.tup [.tup (e.map (stepD (allN f data e))), .tup (w.map fun r => di ((allN f data e).idxOf r))]) S := by
  obtain ⟨k, rfl, hj⟩ := fuel hk
  have r4 := hf.r4
  have bl : (begins f data).length = f.regs := by simp [begins]
  have bdl : (dedup (begins f data)).length ≤ 4 := by
    have := nodup_len _ (begins f data) (dedup_nodup (begins f data)) fun x hx => (dedup_mem _ _).mp hx
    omega
  have nod := hc.nodup (dedup_nodup _)
  have kin : ∀ (e' : List Ent) r, r ∈ keysOf (dedup (begins f data)) e' ↔ r ∈ allN f data e' := fun e' r => by
    simp [keysOf, allN, dedup_mem]
  (refine call_eq (f := f21) rfl rfl ?_; simp only [f21, b21, List.map_cons, List.map_nil, List.replicate_succ, List.replicate_zero, List.cons_append, List.nil_append, Nat.reduceSub])
  refine evB_cons ?_
  simp
  refine evB_cons ?_
  have z2 : rngD [di f.regs] = some ((List.range f.regs).map di) := rngD_nat (by omega)
  simp [z2]
  refine forL_pre (List.range f.regs) (s1I f data n w S) (fun _ _ _ _ => rfl) ?_ ?_ ⟨[], NP.nil, by simp, by simp [kvM], _, rfl⟩
  · rintro a s c σ _ ea ⟨nd, np, nl, rfl, p, rfl⟩
    have hs : s < f.regs := List.mem_range.mp (by rw [ea]; simp)
    have al : a.length = s := by
      have := congrArg (fun l => l[a.length]?) ea
      simp at this
      have h2 : a.length < f.regs := by
        have := congrArg List.length ea
        simp at this; omega
      rw [List.getElem?_range h2] at this
      simpa using this
    rw [forT_put (σ' := [some (dF f), some (.tup (data.map dR)), some (.ref n), some (.lst (w.map dR)), some (.ref S.length), some (.ref (S.length + 1)), some (di s), none, none, none, none, none]) _ _ _ _ (by simp)]
    rw [evB_one]
    simp [isDx_of get0]
    rw [comp_col k _ hdat hs _ (by simp) _ 11 6 (by simp) (by simp) (by omega) (by simp)]
    have z4 : szOk (col data s).length = true := szOk_of (by simp [col]; omega)
    simp [z4]
    rw [← dR_def]
    by_cases me : col data s ∈ a.map (col data)
    · have := np (col data s)
      rw [if_pos me] at this
      rw [dsetd_old get0 this, ofO_some]
      exact ⟨nd, by rw [List.map_append]; exact np.old me, by simp; omega, rfl, _, rfl⟩
    · have := np (col data s)
      rw [if_neg me] at this
      rw [dsetd_new get0 this (by omega) s, ofO_some]
      refine ⟨nd ++ [(col data s, s)], ?_, by simp; omega, by simp, _, rfl⟩
      have := np.new me
      rw [List.length_map, al] at this
      rw [List.map_append]; exact this
  · rintro σ _ ⟨nd, np, nl, rfl, p, rfl⟩
    simp
    refine evB_cons ?_
    obtain ⟨a1, a2, a3, a4⟩ := attr_ins (get_app (X := [.dict (kvM di nd), .lst []]) h0)
    simp [a3, srcOf_ref (get_app (X := [.dict (kvM di nd), .lst []]) hi)]
    have pre : ∀ j, ∃ r, allN f data e = allN f data (e.take j) ++ r := fun j => ⟨(e.drop j).map (·.1), by
      simp only [allN]
      rw [List.append_assoc, ← List.map_append, List.take_append_drop]⟩
    have ix : ∀ j r, r ∈ allN f data (e.take j) → (allN f data (e.take j)).idxOf r = (allN f data e).idxOf r := fun j r hr => by
      obtain ⟨q, h⟩ := pre j
      rw [h, List.idxOf_append, if_pos hr]
    have np0 : NP nd (allN f data (e.take (([] : List Rw).length - (dedup (begins f data)).length))) := by
      simpa [allN, begins] using np
    refine forL_pre (rowsOfE (dedup (begins f data)) e) (s2I f data n w (dedup (begins f data)) e S) (fun a σ S' h => ?_) ?_ ?_ ⟨nd, np0, by simp at nl ⊢; omega, by simp, _, _, _, _, _, rfl⟩
    · obtain ⟨nd, _, _, rfl, _⟩ := h
      exact still_at (get_app hi)
    · rintro a x c σ _ ea ⟨nd, np, nl, rfl, p, q, r, t, u, rfl⟩
      have xk : x ∈ keysOf (dedup (begins f data)) e := mem_rowsOf.mp (by rw [ea]; simp)
      have lt : a.length < (rowsOfE (dedup (begins f data)) e).length := by rw [ea]; simp
      have xa : (rowsOfE (dedup (begins f data)) e)[a.length]? = some x := by rw [ea]; simp
      have rlen : (rowsOfE (dedup (begins f data)) e).length = (dedup (begins f data)).length + e.length := by simp [rowsOf_len, keysOf]
      obtain ⟨G, hG⟩ : ∃ G, (e.take (a.length - (dedup (begins f data)).length)).map (stepD (allN f data e)) = G := ⟨_, rfl⟩
      rw [hG]
      obtain ⟨a1, a2, a3, a4⟩ := attr_ins (get_app (X := [.dict (kvM di nd), .lst G]) h0)
      rw [forT_put (σ' := [some (dF f), some (.tup (data.map dR)), some (.ref n), some (.lst (w.map dR)), some (.ref S.length), some (.ref (S.length + 1)), p, some (dR x), r, t, u, none]) _ _ _ _ (by simp)]
      rw [evB_one]
      simp [dget_dR di get0, lookup_isNone]
      have nk := np.keys x
      by_cases c1 : a.length < (dedup (begins f data)).length
      · have mx : x ∈ begins f data := by
          rw [rowsOfE, List.getElem?_append_left (by rw [length_srt]; exact c1)] at xa
          exact (dedup_mem _ _).mp (mem_srt.mp (List.mem_of_getElem? xa))
        have e0 : a.length - (dedup (begins f data)).length = 0 := by omega
        have e1 : (a ++ [x]).length - (dedup (begins f data)).length = 0 := by simp; omega
        have mn : x ∈ nd.map (·.1) := nk.mpr (by simp [allN, mx])
        simp [mn]
        refine ⟨nd, by rw [e1]; rw [e0] at np; exact np, by simp; omega, by rw [e1, ← hG, e0], _, _, _, _, _, rfl⟩
      · have cj : a.length - (dedup (begins f data)).length < e.length := by omega
        have e1 : (a ++ [x]).length - (dedup (begins f data)).length = a.length - (dedup (begins f data)).length + 1 := by simp; omega
        rw [rowsOfE, List.getElem?_append_right (by rw [length_srt]; omega), length_srt] at xa
        generalize hjj : a.length - (dedup (begins f data)).length = j at *
        obtain ⟨ent, he1⟩ : ∃ ent, e[j]? = some ent := ⟨_, List.getElem?_eq_getElem cj⟩
        have hx : ent.1 = x := by
          rw [List.getElem?_map, he1] at xa
          simpa using xa
        obtain ⟨h1, h2, h3, h4, h5, h6⟩ := hc.at j ent he1
        have tk : e.take (j + 1) = e.take j ++ [ent] := by
          rw [List.take_succ, he1]; rfl
        have mn : x ∉ nd.map (·.1) := fun z => h6 ((kin _ _).mpr (by rw [hx]; exact nk.mp z))
        have nx : x ∉ allN f data (e.take j) := fun z => mn (nk.mpr z)
        have lk : (waysOf (dedup (begins f data)) e).lookup x = some (some ent.2) := by
          refine lookup_nodup (by rw [waysOf_keys]; exact nod) ?_
          rw [← hx]
          refine List.mem_append_right _ (List.mem_map.mpr ⟨ent, List.mem_of_getElem? he1, rfl⟩)
        simp [mn]
        refine evB_cons ?_
        simp [a4, dget_dR wayD (get_app hm), lk, wayD]
        refine evB_cons ?_
        have jl : (allN f data (e.take j)).length = f.regs + j := by simp [allN, bl]; omega
        have jt : G.length = j := by rw [← hG]; simp; omega
        simp [len_ref get1, jt]
        rw [show ((f.regs : Int) + (j : Nat)) = ((f.regs + j : Nat) : Int) by rfl]
        rw [show D.int ((f.regs + j : Nat) : Int) = di (allN f data (e.take j)).length by rw [jl]]
        rw [dput_new di get0 (lk_none mn) (by omega) _, ofO_some, cont_nx, evB_one]
        have np2 := np.new nx
        have ll : nd.length ≤ 1000000 := by omega
        simp
        have q1 := np2 ent.2.2.1
        have q2 := np2 ent.2.2.2
        have mx := (kin _ _).mp h2
        have my := (kin _ _).mp h3
        rw [if_pos (by simp [mx]), List.idxOf_append, if_pos mx, ix j _ mx] at q1
        rw [if_pos (by simp [my]), List.idxOf_append, if_pos my, ix j _ my] at q2
        rw [dget_dR di get0, q1]
        simp only [ofO_some, Option.map_some]
        simp
        rw [dget_dR di get0, q2]
        simp
        rw [app1 (by omega), ofO_some]
        refine ⟨nd ++ [(x, (allN f data (e.take j)).length)], ?_, ?_, ?_, _, _, _, _, _, rfl⟩
        · rw [e1, tk]
          have e3 : allN f data (e.take j ++ [ent]) = allN f data (e.take j) ++ [x] := by simp [allN, hx]
          rw [e3]; exact np2
        · simp; omega
        · rw [e1, tk, List.map_append, hG]; rfl
    · rintro σ _ ⟨nd, np, nl, rfl, p, q, r, t, u, rfl⟩
      have e1 : (rowsOfE (dedup (begins f data)) e).length - (dedup (begins f data)).length = e.length := by simp [rowsOf_len, keysOf]
      rw [e1, List.take_length] at np
      rw [e1, List.take_length]
      simp
      rw [evB_one]
      simp [tuple_ref get1]
      rw [compL_map (enc := dR) (g := fun r => di ((allN f data e).idxOf r)) rfl w fun r hr => eq_of_wp (by
        have m := (kin _ _).mp (hwk r hr)
        have := np r
        rw [if_pos m] at this
        simp [turnC_put, dget_dR di get0, this])]
      have z : szOk w.length = true := szOk_of (by omega)
      simp [z]
      rw [fin_app (by simp)]
      · simp
      · simp
        exact ⟨cleans_map e fun x _ => by simp [stepD], cleans_map w fun x _ => by simp⟩
end
end K66

set_option Elab.async false
set_option autoImplicit false
set_option linter.all false
set_option maxRecDepth 100000
namespace K66
open PySem L2 Rx Pl
/-- a paper of steps -/
def IsWay (f : Fr) (lot : Rw) (data : List Rw) (W : List Rw) (told : D) : Prop :=
  ∃ e, Ch f lot (dedup (begins f data)) e ∧ e.length ≤ 81 ∧ (∀ r ∈ W, r ∈ allN f data e) ∧ told = .tup [.str "way", .tup (e.map (stepD (allN f data e))), .tup (W.map fun r => di ((allN f data e).idxOf r))]
/-- a paper of rows -/
def IsLotP (f : Fr) (lot : Rw) (data : List Rw) (W : List Rw) (told : D) : Prop :=
  ∃ R, Asc R ∧ R.length ≤ 81 ∧ (∀ r ∈ R, RwOk f.size data.length r) ∧ (∀ r ∈ begins f data, r ∈ R) ∧ (∀ x ∈ R, ∀ y ∈ R, Did f lot R x y) ∧ ¬ (∀ r ∈ W, r ∈ R) ∧ told = .tup [.str "lot", .tup (R.map dR)]
section
variable {f : Fr}
theorem w_straight_paper (k : Nat) (hf : f.Ok) (hc : f.cells = 0) {lot : Rw} (hlot : LotOk lot) {data : List Rw} (hdat : ∀ d ∈ data, f.Dat d) (hdn : data.Nodup) (d1 : 1 ≤ data.length) (d4 : data.length ≤ 4)
    {l : List Row} {n : Nat} (hd : rdep l ≤ n) (ho : rowsOk f l) (hw : wids l) (hs : rsz l ≤ 100000) (hll : l.length ≤ 1000) (hk : 2 * n + 12 ≤ k) {S : List O} {i : Nat} (hS : S[i]? = some (.lst (data.map dR))) :
    wp (evF cs T k 3 [dF f, dR lot, .ref i, .tup (dRows l)] S) fun told S' => S' = S ∧ (IsWay f lot data (wanted f l data) told ∨ IsLotP f lot data (wanted f l data) told) := by
  obtain ⟨k, rfl, hj⟩ := fuel (n := 2 * n + 11) hk
  have r4 := hf.r4
  have wl : (wanted f l data).length ≤ 1000 := by simp [wanted, begins]; omega
  have bo := begins_ok hf hdat
  have bo2 : ∀ r ∈ dedup (begins f data), RwOk f.size data.length r := fun r hr => bo r ((dedup_mem _ _).mp hr)
  (refine call_wp (f := f3) rfl rfl ?_; simp only [f3, b3, List.map_cons, List.map_nil, List.replicate_succ, List.replicate_zero, List.cons_append, List.nil_append, Nat.reduceSub])
  refine evB_cons ?_
  simp [w_need_bare k (by omega) hf hc]
  refine evB_cons ?_
  simp [w_need_lot k (by omega) hlot, w_need_few_data k (by omega) hf hdat hdn d1 d4 hS]
  refine evB_cons ?_
  simp [w_wanted_rows k hf hd ho hw hs hll (by omega) hdat (show data.length ≤ 1000 by omega)]
  refine evB_cons ?_
  simp [w_init k (by omega) hf hdat (show data.length ≤ 1000 by omega)]
  refine evB_cons ?_
  simp
  have w0 : (begins f data).foldl addN [] = dedup (begins f data) := rfl
  rw [w0, show (dedup (begins f data)).map (fun r => (r, (none : Option (Nat × Rw × Rw)))) = waysOf (dedup (begins f data)) [] from (waysOf_nil _).symm]
  obtain ⟨m1, m2, m3⟩ := meth_ins (f := f) (lot := lot) (S := S ++ [insS f lot (S.length + 1) (S.length + 2), .lst ((begins f data).map dR), .dict (kvM wayD (waysOf (dedup (begins f data)) []))]) (n := S.length) get0
  rw [m3, ifB_t]
  simp
  have hgr := w_grow k (by omega) hf d1 d4 (dedup_nodup (begins f data)) bo2 (wanted f l data) wl (lot := lot) (S0 := S) (X := .lst ((begins f data).map dR))
  refine wp_mono hgr ?_
  rintro _ _ ⟨rfl, e, at_, gi, rfl, hend⟩
  have cl := ch_len hf d4 (dedup_nodup _) bo2 gi.ch
  have el : e.length ≤ 81 := by simp [keysOf] at cl; omega
  obtain ⟨m1, m2, m3⟩ := meth_ins (silS_get0 (f := f) (lot := lot) (b := dedup (begins f data)) (S0 := S) (X := .lst ((begins f data).map dR)) (e := e))
  obtain ⟨a1, a2, a3, a4⟩ := attr_ins (silS_get0 (f := f) (lot := lot) (b := dedup (begins f data)) (S0 := S) (X := .lst ((begins f data).map dR)) (e := e))
  have kin : ∀ r, r ∈ keysOf (dedup (begins f data)) e ↔ r ∈ allN f data e := fun r => by simp [keysOf, allN, dedup_mem]
  refine evB_cons ?_
  simp [m1, w_has_all k (by omega) silS_get0 silS_get2 (wanted f l data) wl]
  by_cases ha : ∀ r ∈ wanted f l data, r ∈ keysOf (dedup (begins f data)) e
  · have ht : ((wanted f l data).all fun r => decide (r ∈ keysOf (dedup (begins f data)) e)) = true := by simpa using ha
    rw [ht]
    simp only [Bool.not_true, ifB_f]
    simp
    refine evB_cons ?_
    simp [w_steps_to k (by omega) hf hdat (show data.length ≤ 1000 by omega) gi.ch (show e.length ≤ 1000 by omega) silS_get0 silS_get3 silS_get2 wl ha]
    rw [evB_one]
    simp
    rw [silS, fin_app (by simp)]
    · rw [wp_ok]
      exact ⟨rfl, .inl ⟨e, gi.ch, el, fun r hr => (kin r).mp (ha r hr), rfl⟩⟩
    · simp
      exact ⟨cleans_map e fun x _ => by simp [stepD], cleans_map _ fun x _ => by simp⟩
  · have ht : ((wanted f l data).all fun r => decide (r ∈ keysOf (dedup (begins f data)) e)) = false := by
      rw [Bool.eq_false_iff]; intro z; exact ha (by simpa using z)
    rw [ht]
    simp only [Bool.not_false, ifB_t]
    rw [evB_one]
    have ok1 := gi.ch.ok hf bo2
    have ne : ∀ r ∈ rowsOfE (dedup (begins f data)) e, r ≠ [] := fun r hr z => by
      have := (ok1 r (mem_rowsOf.mp hr)).1
      rw [z] at this; simp at this; omega
    simp [a3, lstOf, silS_get3, sortD_dR ne]
    rw [silS, fin_app (by simp)]
    · rw [wp_ok]
      have hat : at_ = (rowsOfE (dedup (begins f data)) e).length := by
        rcases hend with h | h
        · exact h
        · exact absurd h ha
      rw [hat] at gi
      have mR : ∀ r, r ∈ srt (rowsOfE (dedup (begins f data)) e) ↔ r ∈ keysOf (dedup (begins f data)) e := fun r => by rw [mem_srt, mem_rowsOf]
      have nod : (rowsOfE (dedup (begins f data)) e).Nodup := by
        have := gi.ch.nodup (dedup_nodup _)
        rw [rowsOfE]
        rw [keysOf] at this
        exact (((List.mergeSort_perm (dedup (begins f data)) _).append_right _).nodup_iff).mpr this
      refine ⟨rfl, .inr ⟨srt (rowsOfE (dedup (begins f data)) e), srt_asc nod, by rw [length_srt, rowsOf_len]; exact cl, fun r hr => ok1 r ((mR r).mp hr), fun r hr => (mR r).mpr (by simp [keysOf, dedup_mem, hr]), fun x hx y hy => (gi.closed x ((mR x).mp hx) y ((mR y).mp hy)).mono fun r hr => (mR r).mpr hr, fun z => ha fun r hr => (mR r).mp (z r hr), rfl⟩⟩
    · simp
end
end K66

set_option Elab.async false
set_option autoImplicit false
set_option linter.all false
set_option maxRecDepth 100000
namespace K66
open PySem L2 Rx Pl
section
variable {f : Fr}
theorem len3 {l : List D} (h : l.length = 3) : ∃ a b c, l = [a, b, c] := by
  match l, h with
  | [a, b, c], _ => exact ⟨a, b, c, rfl⟩
theorem w_are_steps (k : Nat) (hk : 4 ≤ k) {tabs : List D} {T : Nat} (hT : tabs.length = T) (many : Nat) {s : List D} (hs : ∀ d ∈ s, d.ok 60 = true) (S : List O) : evF cs K66.T k 42 [.tup tabs, di many, .tup s] S = .ok (.bl (stepsOk T many 0 s)) S := by
  obtain ⟨k, rfl, hj⟩ := fuel hk
  (refine call_eq (f := f42) rfl rfl ?_; simp only [f42, b42, List.map_cons, List.map_nil, List.replicate_succ, List.replicate_zero, List.cons_append, List.nil_append, Nat.reduceSub])
  refine evB_cons ?_
  simp
  refine evB_cons ?_
  simp [enumL_id]
  refine forL_pre s.zipIdx (fun a σ S' => S' = S ∧ stepsOk T many 0 s = stepsOk T many a.length (s.drop a.length) ∧ ∃ p q, σ = [some (.tup tabs), some (di many), some (.tup s), p, q, none]) (fun _ _ _ _ => rfl) ?_ ?_ ⟨rfl, rfl, _, _, rfl⟩
  · rintro a x b σ _ e ⟨rfl, hso, p, q, rfl⟩
    obtain ⟨h1, h2⟩ := zipIdx_at e
    rw [stepsOk_drop h2] at hso
    have ho := hs x.1 (List.mem_of_getElem? h2)
    have ty := fun S => ok_ty S ho
    rw [forT_put (σ' := [some (.tup tabs), some (di many), some (.tup s), some (di x.2), some x.1, none]) _ _ _ _ (by simp)]
    refine evB_cons ?_
    simp [isa_T (ty _)]
    by_cases t : isT x.1 = true
    · obtain ⟨l, hl⟩ : ∃ l, x.1 = .tup l := by
        cases hx : x.1 <;> rw [hx] at t <;> first | exact ⟨_, rfl⟩ | cases t
      rw [hl] at ho hso ⊢
      by_cases l3 : l.length = 3
      · obtain ⟨u, v, w, rfl⟩ := len3 l3
        have oo := (ok_tup.mp ho).2
        have tu := fun S => ok_ty S (oo u (by simp))
        have tv := fun S => ok_ty S (oo v (by simp))
        have tw := fun S => ok_ty S (oo w (by simp))
        simp [isT, w_is_below k (by omega) u _ _ (tu _), hT]
        simp only [stepGet] at hso
        cases bu : below (T : Int) u with
        | false =>
          simp [evB_one]
          simp [bu] at hso
          simp [hso]
        | true =>
          simp
          rw [evB_one]
          simp [turnC_put, w_is_below k (by omega) v _ _ (tv _), w_is_below k (by omega) w _ _ (tw _), bi_allL, h1]
          simp [bu] at hso
          cases bv : below ((many : Int) + a.length) v with
          | false =>
            simp [evB_one]
            simp [bv] at hso
            simp [hso]
          | true =>
            cases bw : below ((many : Int) + a.length) w with
            | false =>
              simp [evB_one]
              simp [bv, bw] at hso
              simp [hso]
            | true =>
              simp [bv, bw] at hso
              simp [hso]
      · have l3' : ¬ ((l.length : Int) = 3) := by omega
        rw [stepGet_len l3] at hso
        simp at hso
        simp [isT, l3', l3, evB_one, hso]
    · have t' : isT x.1 = false := by simpa using t
      rw [stepGet_not t'] at hso
      simp at hso
      simp [t', evB_one, hso]
  · rintro σ _ ⟨rfl, hso, p, q, rfl⟩
    simp at hso
    simp [evB_one, hso, stepsOk]
theorem w_are_steps_not (k : Nat) (hk : 1 ≤ k) {x y v : D} (S : List O) (ty : (tyD S v).isSome = true) (h : isT v = false) : evF cs K66.T k 42 [x, y, v] S = .ok (.bl false) S := by
  obtain ⟨k, rfl, hj⟩ := fuel hk
  (refine call_eq (f := f42) rfl rfl ?_; simp only [f42, b42, List.map_cons, List.map_nil, List.replicate_succ, List.replicate_zero, List.cons_append, List.nil_append, Nat.reduceSub])
  refine evB_cons ?_
  simp [isa_T ty, h, evB_one]
theorem w_are_ascending (k : Nat) (hk : 1 ≤ k) {R : List Rw} (hl : R.length ≤ 1000) (S : List O) : evF cs K66.T k 45 [.tup (R.map dR)] S = .ok (.bl (ascB R)) S := by
  obtain ⟨k, rfl, hj⟩ := fuel hk
  (refine call_eq (f := f45) rfl rfl ?_; simp only [f45, b45, List.map_cons, List.map_nil, List.replicate_succ, List.replicate_zero, List.cons_append, List.nil_append, Nat.reduceSub])
  refine evB_cons ?_
  have z : rngD [.int ((R.length : Int) - 1)] = some ((List.range (R.length - 1)).map di) := by
    rw [rngD_int (by omega) (by omega)]
    congr 3
    omega
  simp [z]
  rw [compL_map (enc := di) (g := fun i => .bl (decide (rowAt R i < rowAt R (i + 1)))) rfl (List.range (R.length - 1)) fun i hi => eq_of_wp (by
    have hi : i < R.length - 1 := List.mem_range.mp hi
    have h1 := (rowAt_lt (rows := R) (show i < R.length by omega)).1
    have h2 := (rowAt_lt (rows := R) (show i + 1 < R.length by omega)).1
    have e : ((i : Int) + 1) = ((i + 1 : Nat) : Int) := rfl
    rw [turnC_put (σ' := [some (.tup (R.map dR)), some (di i)]) _ _ _ _ (by simp)]
    simp only [eIfs_nil, ifB_t, eE_cmp, eE_idx, eE_var, eE_bin, eE_lit, List.getElem?_cons_succ, List.getElem?_cons_zero, getV_some, ofO_some, idx_tup, bin_add, e, Rx.atI_nat, List.getElem?_map, h1, h2, Option.map_some, cmp_lt, ltD_dR]
    simp)]
  have z2 : szOk (R.length - 1) = true := szOk_of (by omega)
  simp [z2, asc_all]
end
end K66

set_option Elab.async false
set_option autoImplicit false
set_option linter.all false
set_option maxRecDepth 100000
namespace K66
open PySem L2 Rx Pl
section
variable {f : Fr}
theorem isT_tup {d : D} (h : isT d = true) : ∃ l, d = .tup l := by
  cases d <;> first | exact ⟨_, rfl⟩ | cases h
theorem isWayP_not1 {lot : Rw} {data W : List Rw} {s e : D} (h : isT s = false) : isWayP f lot data W s e = false := by
  cases s <;> first | rfl | cases h
theorem isWayP_not2 {lot : Rw} {data W : List Rw} {s : List D} {e : D} (h : isT e = false) : isWayP f lot data W (.tup s) e = false := by
  cases e <;> first | rfl | cases h
theorem eqB_len {a b : Nat} (S : List O) : eqD S (di a) (di b) = some (decide (a = b)) := eqD_di S a b
def qwI (f : Fr) (lot : Rw) (data : List Rw) (W : List Rw) (s e : List D) (S : List O) (a : List D) (σ : Rx.Env) (S' : List O) : Prop :=
  ∃ R, S' = S ++ [.lst (R.map dR)] ∧ R.length = f.regs + a.length ∧ (∀ r ∈ R, RwOk f.size data.length r) ∧ wayGo f lot (begins f data) s = wayGo f lot R (s.drop a.length) ∧ ∃ p q r, σ = [some (dF f), some (dR lot), some (.tup (data.map dR)), some (.lst (W.map dR)), some (.tup s), some (.tup e), some (.ref S.length), p, q, r, none, none, none, none]
theorem w_is_quiet_way (k : Nat) (hk : 5 ≤ k) (hf : f.Ok) {lot : Rw} {data : List Rw} (hdat : ∀ d ∈ data, f.Dat d) (hdl : data.length ≤ 60) {W : List Rw} (hW : W.length = f.regs) {s e : D} (hs : s.ok 60 = true) (he : e.ok 60 = true) (S : List O) :
    evF cs T k 27 [dF f, dR lot, .tup (data.map dR), .lst (W.map dR), s, e] S = .ok (.bl (isWayP f lot data W s e)) S := by
  obtain ⟨k, rfl, hj⟩ := fuel hk
  have r4 := hf.r4
  (refine call_eq (f := f27) rfl rfl ?_; simp only [f27, b27, List.map_cons, List.map_nil, List.replicate_succ, List.replicate_zero, List.cons_append, List.nil_append, Nat.reduceSub])
  refine evB_cons ?_
  simp
  by_cases t1 : isT s = true
  case neg =>
    have t1' : isT s = false := by simpa using t1
    simp [w_are_steps_not k (by omega) _ (ok_ty _ hs) t1', evB_one, isWayP_not1 t1']
  obtain ⟨sl, rfl⟩ := isT_tup t1
  have so := ok_tup.mp hs
  simp [w_are_steps k (by omega) (show (f.tabs.map dR).length = f.tabs.length by simp) f.regs so.2]
  by_cases s1 : stepsOk f.tabs.length f.regs 0 sl = true
  case neg =>
    have s1' : stepsOk f.tabs.length f.regs 0 sl = false := by simpa using s1
    have : isWayP f lot data W (.tup sl) e = false := by
      cases e <;> try rfl
      rename_i el
      simp only [isWayP]
      cases h : wayGo f lot (begins f data) sl with
      | none => simp
      | some R =>
        have := steps_of_way (many := f.regs) sl 0 (begins f data) R (by simp [begins]) h
        rw [s1'] at this; cases this
    simp [s1', evB_one, this]
  simp [s1, isa_T (ok_ty _ he)]
  by_cases t2 : isT e = true
  case neg =>
    have t2' : isT e = false := by simpa using t2
    simp [t2', evB_one, isWayP_not2 t2']
  obtain ⟨el, rfl⟩ := isT_tup t2
  have eo := ok_tup.mp he
  simp [t2]
  by_cases l1 : el.length = f.regs
  case neg =>
    have l1' : ¬ ((el.length : Int) = f.regs) := by omega
    simp [l1', l1, evB_one, isWayP]
  simp [l1]
  refine evB_cons ?_
  have z2 : rngD [di f.regs] = some ((List.range f.regs).map di) := rngD_nat (by omega)
  simp [z2]
  rw [compL_map (enc := di) (g := fun s => dR (col data s)) rfl (List.range f.regs) fun s h => eq_of_wp (by
    have hs : s < f.regs := List.mem_range.mp h
    rw [turnC_put (σ' := [some (dF f), some (dR lot), some (.tup (data.map dR)), some (.lst (W.map dR)), some (.tup sl), some (.tup el), none, none, none, none, some (di s), none, none, none]) _ _ _ _ (by simp)]
    simp
    rw [comp_col k _ hdat hs _ (by simp) _ 13 10 (by simp) (by simp) (by omega) (by simp)]
    have z4 : szOk (col data s).length = true := szOk_of (by simp [col]; omega)
    simp [z4]
    rfl)]
  have z3 : szOk f.regs = true := szOk_of (by omega)
  simp [z3]
  rw [show (List.range f.regs).map (fun s => dR (col data s)) = (begins f data).map dR by simp [begins]]
  refine evB_cons ?_
  simp
  have bl : (begins f data).length = f.regs := by simp [begins]
  refine forL_preD sl (qwI f lot data W sl el S) (fun _ _ _ _ => rfl) ?_ ?_ ⟨begins f data, rfl, by simp [bl], begins_ok hf hdat, rfl, _, _, _, rfl⟩
  · rintro a d b σ _ ea ⟨R, rfl, hR, hRo, hw, p, q, r, rfl⟩
    have ha : sl[a.length]? = some d := by rw [ea]; simp
    have lt := (List.getElem?_eq_some_iff.mp ha).1
    have sg := stepsOk_at s1 a.length d ha
    rw [Nat.add_zero] at sg
    obtain ⟨⟨u, v, w⟩, hg⟩ := Option.isSome_iff_exists.mp sg
    obtain ⟨rfl, hu, hv, hw'⟩ := stepGet_some hg
    rw [← hR] at hv hw' hg
    have dr : sl.drop a.length = D.tup [di u, di v, di w] :: sl.drop (a.length + 1) := by
      rw [List.drop_eq_getElem_cons lt, (List.getElem?_eq_some_iff.mp ha).2]
    rw [dr, wayGo_cons hg] at hw
    obtain ⟨v1, v2⟩ := rowAt_lt hv
    obtain ⟨w1, w2⟩ := rowAt_lt hw'
    have vl := (hRo _ v2).1
    have wl := (hRo _ w2).1
    rw [forT_put (σ' := [some (dF f), some (dR lot), some (.tup (data.map dR)), some (.lst (W.map dR)), some (.tup sl), some (.tup el), some (.ref S.length), some (di u), some (di v), some (di w), none, none, none, none]) _ _ _ _ (by simp)]
    refine evB_cons ?_
    simp [idx_ref get0, v1, w1, w_is_let k (by omega) (show (rowAt R v).length ≤ 60 by omega) (show (rowAt R w).length ≤ 60 by omega)]
    by_cases il : isLet lot (rowAt R v) (rowAt R w) = true
    · rw [if_pos il] at hw
      rw [il]
      simp [evB_one]
      simp [idx_ref get0, v1, w1, w_answer_row k (by omega) hf hu (show data.length ≤ 1000 by omega) (hRo _ v2) (hRo _ w2)]
      rw [app0 (by simp; omega), ofO_some]
      refine ⟨R ++ [ans f u (rowAt R v) (rowAt R w)], by simp, by simp; omega, fun x hx => ?_, by simpa using hw, _, _, _, rfl⟩
      rcases List.mem_append.mp hx with h | h
      · exact hRo x h
      · simp at h; subst h; exact ans_ok hf (hRo _ v2) (hRo _ w2) _
    · have il' : isLet lot (rowAt R v) (rowAt R w) = false := by simpa using il
      rw [if_neg il] at hw
      rw [il']
      simp [evB_one]
      rw [fin_app (by simp) (by simp)]
      simp [isWayP, hw]
  · rintro σ _ ⟨R, rfl, hR, hRo, hw, p, q, r, rfl⟩
    simp [wayGo] at hw
    simp [evB_one, len_ref get0, zip2L_l]
    rw [compL_map (enc := fun p : D × Rw => D.tup [p.1, dR p.2]) (g := fun p => .bl (below R.length p.1 && decide (rowAt R (natD p.1) = p.2))) rfl (el.zip W) fun y hq => eq_of_wp (by
      have ty := fun S => ok_ty S (eo.2 _ (List.of_mem_zip hq).1)
      rw [turnC_put (σ' := [some (dF f), some (dR lot), some (.tup (data.map dR)), some (.lst (W.map dR)), some (.tup sl), some (.tup el), some (.ref S.length), p, q, r, none, some y.1, some (dR y.2), none]) _ _ _ _ (by simp)]
      simp [len_ref get0, w_is_below k (by omega) _ _ _ (ty _)]
      cases hb : below (R.length : Nat) y.1 with
      | false => simp
      | true =>
        obtain ⟨h1, h2⟩ := below_nat hb
        obtain ⟨g1, g2⟩ := rowAt_lt (rows := R) (i := natD y.1) (by omega)
        rw [h1] 
        simp [idx_ref get0, g1, natD_di])]
    have z4 : szOk (el.zip W).length = true := szOk_of (by simp; omega)
    rw [wp_ok, List.length_map, z4, ifB_t, eEs_nil, bi_all, ofO_some, endP_ret, fin_app (by simp) (by simp), wp_ok]
    refine ⟨?_, rfl⟩
    rw [endsGo_zip R el W (by omega)]
    simp [isWayP, hw, l1]
/-! ### a lot of rows -/
theorem lotOk_not {lot : Rw} {data W : List Rw} {v : D} (h : isT v = false) : lotOk f lot data W v = false := by
  cases v <;> first | rfl | cases h
/-- the part of a lot's look that is the program's -/
def lotB (f : Fr) (lot : Rw) (data : List Rw) : D → Bool
  | .tup l => match rowsGet f.size data.length l with
    | some R => ascB R && ((begins f data).all (fun r => decide (r ∈ R)) && closedB f lot R)
    | none => false
  | _ => false
theorem w_is_silent_lot (k : Nat) (hk : 4 ≤ k) (hf : f.Ok) {lot : Rw} {data : List Rw} (hdat : ∀ d ∈ data, f.Dat d) (hdl : data.length ≤ 60) {v : D} (hv : v.ok 60 = true) (S : List O) :
    evF cs T k 28 [dF f, dR lot, .tup (data.map dR), v] S = .ok (.bl (lotB f lot data v)) S := by
  obtain ⟨k, rfl, hj⟩ := fuel hk
  have r4 := hf.r4
  (refine call_eq (f := f28) rfl rfl ?_; simp only [f28, b28, List.map_cons, List.map_nil, List.replicate_succ, List.replicate_zero, List.cons_append, List.nil_append, Nat.reduceSub])
  refine evB_cons ?_
  simp [isa_T (ok_ty _ hv)]
  by_cases t1 : isT v = true
  case neg =>
    have t1' : isT v = false := by simpa using t1
    have : lotB f lot data v = false := by cases v <;> first | rfl | cases t1'
    simp [t1', evB_one, this]
  obtain ⟨l, rfl⟩ := isT_tup t1
  have vo := ok_tup.mp hv
  simp [t1]
  rw [compL_mapD (g := fun d => .bl (isT d && decide ((items d).length = data.length))) rfl l fun d hd => eq_of_wp (by
    have ty := fun S => ok_ty S (vo.2 d hd)
    rw [turnC_put (σ' := [some (dF f), some (dR lot), some (.tup (data.map dR)), some (.tup l), none, none, none, some d, none, none]) _ _ _ _ (by simp)]
    simp [isa_T (ty _)]
    cases t : isT d with
    | false => simp
    | true =>
      obtain ⟨q, rfl⟩ := isT_tup t
      simp [items]
      exact decide_eq_decide.mpr (by omega))]
  have z1 : szOk l.length = true := szOk_of (by omega)
  simp [z1]
  rw [show (l.all fun x => isT x && decide ((items x).length = data.length)) = okA data.length l from rfl]
  have sm := rowsGet_isSome (s := f.size) (n := data.length) (l := l)
  cases hA : okA data.length l with
  | false =>
    rw [hA] at sm
    have : rowsGet f.size data.length l = none := by simpa using sm
    simp [evB_one, lotB, this]
  | true =>
    rw [hA, Bool.true_and] at sm
    simp
    refine evB_cons ?_
    have hA' : ∀ d ∈ l, ∃ q, d = .tup q ∧ q.length = data.length := fun d hd => by
      have := List.all_eq_true.mp hA d hd
      simp only [Bool.and_eq_true, decide_eq_true_eq] at this
      obtain ⟨q, rfl⟩ := isT_tup this.1
      exact ⟨q, rfl, this.2⟩
    simp
    rw [compLL_mapD (g := fun d => (items d).map fun x => .bl (below f.size x)) rfl l fun d hd => eq_of_wp (by
      obtain ⟨q, rfl, ql⟩ := hA' d hd
      have qo := (ok_tup.mp (vo.2 _ hd)).2
      rw [turnC2_put (σ' := [some (dF f), some (dR lot), some (.tup (data.map dR)), some (.tup l), none, none, none, some (.tup q), none, none]) _ _ _ _ (by simp)]
      simp
      rw [compL_mapD (g := fun x => .bl (below f.size x)) rfl q fun x hx => eq_of_wp (by
        simp [turnC_put, w_is_below k (by omega) x _ _ (ok_ty _ (qo x hx))])]
      simp [items])]
    have fl : (l.flatMap fun d => (items d).map fun x => D.bl (below f.size x)) = (l.flatMap items).map fun x => D.bl (below f.size x) := by
      rw [List.map_flatMap]
    have z2 : szOk ((l.flatMap items).map fun x => D.bl (below f.size x)).length = true := by
      refine szOk_of ?_
      rw [List.length_map, List.length_flatMap]
      have : ∀ l : List D, (∀ d ∈ l, ∃ q, d = .tup q ∧ q.length = data.length) → (l.map fun d => (items d).length).sum = l.length * data.length := fun l => by
        induction l with
        | nil => simp
        | cons d l ih =>
          intro h
          obtain ⟨q, rfl, ql⟩ := h d (by simp)
          rw [List.map_cons, List.sum_cons, ih fun x hx => h x (by simp [hx]), items, ql, List.length_cons, Nat.succ_mul]; omega
      rw [this l hA']
      have := Nat.mul_le_mul vo.1 hdl
      omega
    rw [wp_ok, fl, z2, ifB_t, eEs_nil, bi_all, ofO_some, truD_bl, ofO_some, truD_bl, ofO_some]
    rw [show (l.flatMap items).all (fun x => below f.size x) = okBl f.size l from rfl]
    cases hB : okBl f.size l with
    | false =>
      rw [hB] at sm
      have : rowsGet f.size data.length l = none := by simpa using sm
      simp [evB_one, lotB, this]
    | true =>
      rw [hB] at sm
      obtain ⟨R, hR⟩ := Option.isSome_iff_exists.mp sm
      obtain ⟨rfl, hRo⟩ := rowsGet_some hR
      have Rl : R.length ≤ 60 := by simpa using vo.1
      simp [w_are_ascending k (by omega) (show R.length ≤ 1000 by omega)]
      cases hC : ascB R with
      | false => simp [evB_one, lotB, hR, hC]
      | true =>
        simp
        refine evB_cons ?_
        have z3 : rngD [di f.regs] = some ((List.range f.regs).map di) := rngD_nat (by omega)
        simp [z3]
        rw [compL_map (enc := di) (g := fun s => .bl (decide (col data s ∈ R))) rfl (List.range f.regs) fun s h => eq_of_wp (by
          have hs : s < f.regs := List.mem_range.mp h
          rw [turnC_put (σ' := [some (dF f), some (dR lot), some (.tup (data.map dR)), some (.tup (R.map dR)), none, none, some (di s), none, none, none]) _ _ _ _ (by simp)]
          simp
          rw [comp_col k _ hdat hs _ (by simp) _ 8 6 (by simp) (by simp) (by omega) (by simp)]
          have z4 : szOk (col data s).length = true := szOk_of (by simp [col]; omega)
          simp [z4]
          rw [← dR_def]
          simp)]
        have z4 : szOk f.regs = true := szOk_of (by omega)
        simp [z4]
        have eb : ((List.range f.regs).all fun s => decide (col data s ∈ R)) = (begins f data).all fun r => decide (r ∈ R) := by
          simp only [begins, List.all_map, Function.comp_def]
        rw [eb]
        cases hD : (begins f data).all fun r => decide (r ∈ R) with
        | false => simp [evB_one, lotB, hR, hC, hD]
        | true =>
          simp
          refine evB_cons ?_
          simp
          have res : lotB f lot data (.tup (R.map dR)) = closedB f lot R := by simp [lotB, hR, hC, hD]
          rw [res]
          refine forL_pre R (fun a σ S' => S' = S ∧ (∀ x ∈ a, ∀ y ∈ R, Did f lot R x y) ∧ ∃ p q, σ = [some (dF f), some (dR lot), some (.tup (data.map dR)), some (.tup (R.map dR)), p, q, none, none, none, none]) (fun _ _ _ _ => rfl) ?_ ?_ ⟨rfl, by simp, _, _, rfl⟩
          · rintro a x b σ S2 e ⟨hS, hd, p, q, rfl⟩
            have hx : x ∈ R := by rw [e]; simp
            rw [forT_put (σ' := [some (dF f), some (dR lot), some (.tup (data.map dR)), some (.tup (R.map dR)), some (dR x), q, none, none, none, none]) _ _ _ _ (by simp), evB_one]
            simp
            refine forL_pre R (fun c σ S' => S' = S ∧ (∀ y ∈ c, Did f lot R x y) ∧ ∃ q, σ = [some (dF f), some (dR lot), some (.tup (data.map dR)), some (.tup (R.map dR)), some (dR x), q, none, none, none, none]) (fun _ _ _ _ => rfl) ?_ ?_ ⟨hS, by simp, _, rfl⟩
            · rintro c y d σ S3 e2 ⟨hS3, hd2, q, rfl⟩
              have hy : y ∈ R := by rw [e2]; simp
              have xo := hRo x hx
              have yo := hRo y hy
              have xl := xo.1
              have yl := yo.1
              have t4 := hf.t4
              rw [forT_put (σ' := [some (dF f), some (dR lot), some (.tup (data.map dR)), some (.tup (R.map dR)), some (dR x), some (dR y), none, none, none, none]) _ _ _ _ (by simp), evB_one]
              simp [w_is_let k (by omega) (show x.length ≤ 60 by omega) (show y.length ≤ 60 by omega)]
              cases il : isLet lot x y with
              | false =>
                simp
                refine ⟨hS3, ?_⟩
                intro z hz
                rcases hz with h | h
                · exact hd2 z h
                · subst h; intro h2; rw [il] at h2; cases h2
              | true =>
                simp
                rw [evB_one]
                have z5 : rngD [di f.tabs.length] = some ((List.range f.tabs.length).map di) := rngD_nat (by omega)
                simp [z5]
                rw [compL_map (enc := di) (g := fun t => .bl (decide (ans f t x y ∈ R))) rfl (List.range f.tabs.length) fun t ht => eq_of_wp (by
                  have ht : t < f.tabs.length := List.mem_range.mp ht
                  simp [turnC_put, w_answer_row k (by omega) hf ht (show data.length ≤ 1000 by omega) xo yo])]
                have z6 : szOk f.tabs.length = true := szOk_of (by omega)
                simp [z6]
                cases hE : (List.range f.tabs.length).all fun t => decide (ans f t x y ∈ R) with
                | true =>
                  simp
                  refine ⟨hS3, ?_⟩
                  intro z hz
                  rcases hz with h | h
                  · exact hd2 z h
                  · subst h
                    intro _ t ht
                    simpa using List.all_eq_true.mp hE t (List.mem_range.mpr ht)
                | false =>
                  have nc : closedB f lot R = false := by
                    rw [Bool.eq_false_iff]
                    intro h
                    have h2 := closedB_iff.mp h x hx y hy il
                    have : ((List.range f.tabs.length).all fun t => decide (ans f t x y ∈ R)) = true := by
                      simp only [List.all_eq_true, List.mem_range, decide_eq_true_eq]
                      exact h2
                    rw [hE] at this; cases this
                  subst hS3
                  simp [evB_one, nc]
            · rintro σ S3 ⟨hS3, hd2, q, rfl⟩
              refine ⟨hS3, ?_, _, _, rfl⟩
              intro z hz
              rcases (by simpa using hz : z ∈ a ∨ z = x) with h | h
              · exact hd z h
              · subst h; exact hd2
          · rintro σ S2 ⟨hS, hd, p, q, rfl⟩
            subst hS
            have nc : closedB f lot R = true := closedB_iff.mpr hd
            simp [evB_one, nc]
theorem hasD_wanted (S : List O) (r : Rw) (R : List Rw) : hasD S (dR r) (.tup (R.map dR)) = some (decide (r ∈ R)) := hasD_dR_tup S r R
theorem lotOk_eq {lot : Rw} {data W : List Rw} {R : List Rw} (h : rowsGet f.size data.length (R.map dR) = some R) : lotOk f lot data W (.tup (R.map dR)) = (lotB f lot data (.tup (R.map dR)) && !(W.all fun r => decide (r ∈ R))) := by
  simp only [lotOk, lotB, h]
  cases ascB R <;> cases ((begins f data).all fun r => decide (r ∈ R)) <;> cases closedB f lot R <;> simp
theorem holds_len {lot : Rw} {data W : List Rw} {l : List D} (h : l.length ≠ 2) (h3 : l.length ≠ 3) : holds f lot data W (.tup l) = false := by
  unfold holds
  split
  · rename_i e; cases e; simp at h3
  · rename_i e; cases e; simp at h
  · rfl
theorem holds_str {lot : Rw} {data W : List Rw} {x : D} {l : List D} (h : isS x = false) : holds f lot data W (.tup (x :: l)) = false := by
  unfold holds
  split
  · rename_i e; cases e; cases h
  · rename_i e; cases e; cases h
  · rfl
theorem holds_not {lot : Rw} {data W : List Rw} {v : D} (h : isT v = false) : holds f lot data W v = false := by
  cases v <;> first | rfl | cases h
theorem len2 {l : List D} (h : l.length = 2) : ∃ a b, l = [a, b] := by
  match l, h with
  | [a, b], _ => exact ⟨a, b, rfl⟩
theorem isS_str {d : D} (h : isS d = true) : ∃ x, d = .str x := by
  cases d <;> first | exact ⟨_, rfl⟩ | cases h
theorem has23 (S : List O) (n : Nat) : hasD S (di n) (.tup [.int 2, .int 3]) = some (decide (n = 2 ∨ n = 3)) := by
  have h := hasD_di_tup S n [2, 3]
  have e : (List.map di [2, 3]) = [.int 2, .int 3] := rfl
  rw [e] at h
  rw [h]
  congr 1
  exact decide_eq_decide.mpr (by simp)
theorem w_straight_holds (k : Nat) (hf : f.Ok) (hc : f.cells = 0) {lot : Rw} (hlot : LotOk lot) {data : List Rw} (hdat : ∀ d ∈ data, f.Dat d) (hdn : data.Nodup) (d1 : 1 ≤ data.length) (d4 : data.length ≤ 4)
    {l : List Row} {n : Nat} (hd : rdep l ≤ n) (ho : rowsOk f l) (hw : wids l) (hs : rsz l ≤ 100000) (hll : l.length ≤ 1000) (hk : 2 * n + 12 ≤ k) {S : List O} {i : Nat} (hS : S[i]? = some (.lst (data.map dR))) {v : D} (hv : v.ok 60 = true) :
    evF cs T k 7 [dF f, dR lot, .ref i, .tup (dRows l), v] S = .ok (.bl (holds f lot data (wanted f l data) v)) S := by
  obtain ⟨k, rfl, hj⟩ := fuel (n := 2 * n + 11) hk
  have r4 := hf.r4
  have wl : (wanted f l data).length = f.regs := by simp [wanted, begins]
  have wo := wanted_ok hf hdat l
  (refine call_eq (f := f7) rfl rfl ?_; simp only [f7, b7, List.map_cons, List.map_nil, List.replicate_succ, List.replicate_zero, List.cons_append, List.nil_append, Nat.reduceSub])
  refine evB_cons ?_
  simp [w_need_bare k (by omega) hf hc]
  refine evB_cons ?_
  simp [w_need_lot k (by omega) hlot, w_need_few_data k (by omega) hf hdat hdn d1 d4 hS]
  refine evB_cons ?_
  simp [w_wanted_rows k hf hd ho hw hs hll (by omega) hdat (show data.length ≤ 1000 by omega)]
  refine evB_cons ?_
  simp [isa_T (ok_ty _ hv)]
  cases tv : isT v with
  | false => simp [evB_one, holds_not tv]
  | true =>
    obtain ⟨q, rfl⟩ := isT_tup tv
    have qo := ok_tup.mp hv
    simp [has23]
    by_cases l23 : q.length = 2 ∨ q.length = 3
    case neg =>
      have e : ¬ q.length = 2 := fun z => l23 (.inl z)
      have e3 : ¬ q.length = 3 := fun z => l23 (.inr z)
      simp [e, e3, evB_one, holds_len e e3]
    have l23' : (!decide (q.length = 2) && !decide (q.length = 3)) = false := by rcases l23 with h | h <;> simp [h]
    rw [l23']
    simp
    obtain ⟨x, q', rfl⟩ : ∃ x q', q = x :: q' := by
      cases q with
      | nil => simp at l23
      | cons x q' => exact ⟨x, q', rfl⟩
    have xo := qo.2 x (by simp)
    simp [w_is_string k (by omega) x _ (ok_ty _ xo)]
    cases ts : isS x with
    | false => simp [evB_one, holds_str ts]
    | true =>
      obtain ⟨x, rfl⟩ := isS_str ts
      have xs : PyData.strOk x = true := by simpa using xo
      simp
      refine evB_cons ?_
      rcases l23 with h | h
      · obtain ⟨w, rfl⟩ : ∃ w, q' = [w] := by
          match q', h with
          | [w], _ => exact ⟨w, rfl⟩
        have wo' := qo.2 w (by simp)
        simp
        refine evB_cons ?_
        simp [eqD_strS xs]
        by_cases hx : x = Str.ofString "lot"
        case neg => simp [hx, evB_one, holds]
        simp [hx, w_is_silent_lot k (by omega) hf hdat (show data.length ≤ 60 by omega) wo']
        cases hB : lotB f lot data w with
        | false =>
          have : lotOk f lot data (wanted f l data) w = false := by
            cases w <;> try rfl
            rename_i m
            simp only [lotB] at hB
            simp only [lotOk]
            cases hR : rowsGet f.size data.length m with
            | none => rfl
            | some R =>
              rw [hR] at hB
              simp only at hB ⊢
              cases h1 : ascB R <;> cases h2 : ((begins f data).all fun r => decide (r ∈ R)) <;> cases h3 : closedB f lot R <;> simp_all
          simp [evB_one, holds, this, hx]
        | true =>
          obtain ⟨R, hR, rfl⟩ : ∃ R, rowsGet f.size data.length (R.map dR) = some R ∧ w = .tup (R.map dR) := by
            cases w <;> try (simp [lotB] at hB; done)
            rename_i m
            simp only [lotB] at hB
            cases hR : rowsGet f.size data.length m with
            | none => rw [hR] at hB; simp at hB
            | some R =>
              have e := (rowsGet_some hR).1
              exact ⟨R, by rw [← e]; exact hR, by rw [e]⟩
          simp [evB_one]
          rw [compL_map (enc := dR) (g := fun r => .bl (decide (r ∈ R))) rfl (wanted f l data) fun r hr => eq_of_wp (by simp [turnC_put])]
          have z : szOk (wanted f l data).length = true := szOk_of (by omega)
          simp [z, holds, lotOk_eq hR, hB, hx]
      · obtain ⟨w, u, rfl⟩ : ∃ w u, q' = [w, u] := by
          match q', h with
          | [w, u], _ => exact ⟨w, u, rfl⟩
        have wo' := qo.2 w (by simp)
        have uo' := qo.2 u (by simp)
        simp [evB_one, eqD_strS xs]
        by_cases hx : x = Str.ofString "way"
        case neg => simp [hx, holds]
        simp [hx, w_is_quiet_way k (by omega) hf hdat (show data.length ≤ 60 by omega) wl wo' uo', holds]
end
end K66

set_option Elab.async false
set_option autoImplicit false
set_option linter.all false
set_option maxRecDepth 100000
namespace K66
open PySem L2 Rx Pl
/-! ### the law's own look -/
section
variable {f : Fr}
theorem v_number (k : Nat) (hk : 1 ≤ k) (d : D) (n : Int) (S : List O) (h : (tyD S d).isSome = true) : evF cs T k 39 [d, .int n] S = .ok (.bl (below n d)) S := by
  obtain ⟨k, rfl, hj⟩ := fuel hk
  (refine call_eq (f := f39) rfl rfl ?_; simp only [f39, b39, List.map_cons, List.map_nil, List.replicate_succ, List.replicate_zero, List.cons_append, List.nil_append, Nat.reduceSub])
  refine evB_cons ?_
  obtain ⟨t, ht⟩ := Option.isSome_iff_exists.mp h
  simp [isa_ty _ ht]
  cases d with
  | int i =>
    simp [tyD] at ht
    subst ht
    simp [Ty.sub, below]
    by_cases z : i < 0
    · have : ¬ 0 ≤ i := by omega
      simp [isa_ty, tyD, Ty.sub, below, z, this]
    · have : 0 ≤ i := by omega
      simp [isa_ty, tyD, Ty.sub, below, z, this]
  | ref m =>
    simp only [tyD] at ht
    split at ht <;> simp at ht
    subst ht
    simp [Ty.sub, below]
  | bl b => simp [tyD] at ht; subst ht; simp [isa_ty (S := S) (d := .bl b) _ rfl, Ty.sub, below]
  | _ => simp [tyD] at ht <;> subst ht <;> simp [Ty.sub, below]
theorem v_asked (k : Nat) (hk : 1 ≤ k) {lot a b : Rw} (ha : a.length ≤ 60) (hb : b.length ≤ 60) (S : List O) : evF cs T k 40 [dR lot, dR a, dR b] S = .ok (.bl (isLet lot a b)) S := by
  obtain ⟨k, rfl, hj⟩ := fuel hk
  (refine call_eq (f := f40) rfl rfl ?_; simp only [f40, b40, List.map_cons, List.map_nil, List.replicate_succ, List.replicate_zero, List.cons_append, List.nil_append, Nat.reduceSub])
  refine evB_cons ?_
  have z0 : hasD S (.int 0) (dR lot) = some (decide (0 ∈ lot)) := hasD_di_dR S 0 lot
  have z1 : hasD S (.int 1) (dR lot) = some (decide (1 ∈ lot)) := hasD_di_dR S 1 lot
  simp [z0, z1, lenset_dR _ ha, lenset_dR _ hb]
  by_cases h0 : 0 ∈ lot <;> by_cases h1 : 1 ∈ lot <;> by_cases q : ((nubI (a.map fun (x : Nat) => (x : Int))).length : Int) = 1 <;> simp [z0, z1, lenset_dR _ ha, lenset_dR _ hb, h0, h1, isLet, cst, q]
theorem v_answers (k : Nat) (hk : 1 ≤ k) (hf : f.Ok) {t : Nat} {tab : Rw} (ht : f.tabs[t]? = some tab) {n : Nat} (hn : n ≤ 1000) {a b : Rw} (ha : RwOk f.size n a) (hb : RwOk f.size n b) (S : List O) : evF cs T k 41 [dF f, dR tab, dR a, dR b] S = .ok (dR (ans f t a b)) S := by
  obtain ⟨k, rfl, hj⟩ := fuel hk
  have s3 := hf.s3
  (refine call_eq (f := f41) rfl rfl ?_; simp only [f41, b41, List.map_cons, List.map_nil, List.replicate_succ, List.replicate_zero, List.cons_append, List.nil_append, Nat.reduceSub])
  refine evB_cons ?_
  simp [zip2L_map]
  rw [compL_map (enc := fun p : Nat × Nat => D.tup [di p.1, di p.2]) (g := fun p => di (f.ask t p.1 p.2)) rfl (a.zip b) fun p hp => eq_of_wp (by
    have h1 := ha.2 _ (List.of_mem_zip hp).1
    have h2 := hb.2 _ (List.of_mem_zip hp).2
    obtain ⟨w, h3, h4⟩ := ask_get hf (List.getElem?_eq_some_iff.mp ht).1 h1 h2
    rw [ht] at h3
    cases h3
    have e : (f.size : Int) * (p.1 : Int) + (p.2 : Int) = ((p.1 * f.size + p.2 : Nat) : Int) := by simp [Int.mul_comm]
    rw [turnC_put (σ' := [some (dF f), some (dR tab), some (dR a), some (dR b), some (di p.1), some (di p.2)]) _ _ _ _ (by simp)]
    simp only [eIfs_nil, ifB_t, eE_idx, eE_var, eE_lit, eE_bin, List.getElem?_cons_succ, List.getElem?_cons_zero, getV_some, F0, ofO_some, Rx.atI_nat, Option.map_some, bin_mul _ (mulOk_le _ (show f.size ≤ 1000000 by omega)), bin_add, e, idx_dR, h4]
    simp)]
  have z : szOk (min a.length b.length) = true := szOk_of (by have := ha.1; omega)
  simp [z]
  have e : (a.zip b).map (fun p => di (f.ask t p.1 p.2)) = (ans f t a b).map di := by simp [ans]
  rw [e]
  show wp (fin true S.length S (dR (ans f t a b)) S) _
  simp
theorem v_begins (k : Nat) (hk : 1 ≤ k) (hf : f.Ok) {data : List Rw} (hdat : ∀ d ∈ data, f.Dat d) (hdl : data.length ≤ 1000) {S : List O} {i : Nat} (hS : S[i]? = some (.lst (data.map dR))) :
    evF cs T k 25 [dF f, .ref i] S = .ok (.ref S.length) (S ++ [.lst ((begins f data).map dR)]) := by
  obtain ⟨k, rfl, hj⟩ := fuel hk
  have r4 := hf.r4
  refine eq_of_wp ?_
  (refine call_wp (f := f25) rfl rfl ?_; simp only [f25, b25, List.map_cons, List.map_nil, List.replicate_succ, List.replicate_zero, List.cons_append, List.nil_append, Nat.reduceSub])
  refine evB_cons ?_
  have z2 : rngD [di f.regs] = some ((List.range f.regs).map di) := rngD_nat (by omega)
  simp [z2]
  rw [compL_map (enc := di) (g := fun s => dR (col data s)) rfl (List.range f.regs) fun s h => eq_of_wp (by
    have hs : s < f.regs := List.mem_range.mp h
    rw [turnC_put (σ' := [some (dF f), some (.ref i), some (di s), none]) _ _ _ _ (by simp)]
    simp [srcOf_ref hS]
    rw [comp_col k _ hdat hs _ (still_at hS) _ 3 2 (by simp) (by simp) (by omega) (by simp)]
    have z4 : szOk (col data s).length = true := szOk_of (by simp [col]; omega)
    simp [z4]
    rfl)]
  have z3 : szOk f.regs = true := szOk_of (by omega)
  simp [z3]
  rw [show (List.range f.regs).map (fun s => dR (col data s)) = (begins f data).map dR by simp [begins]]
  simp [fin]
def vcI (f : Fr) (lot : Rw) (n : Nat) (inp : List Rw) (A : D) (S0 : List O) (m : Nat) (σ : Rx.Env) (S : List O) : Prop :=
  ∃ F before, ClI f lot n inp F ∧ S = S0 ++ [.lst (F.map dR)] ∧ (before = F.length → Closed (isLet lot) (anss f) F) ∧ m = 2 * (inp.length + 16 - F.length) + (if before = F.length then 0 else 1) ∧ ∃ p q r t, σ = [some (dF f), some (dR lot), some A, some (.ref S0.length), some (di before), p, q, r, t]
def vlI (f : Fr) (n : Nat) (inp : List Rw) (S : List O) (H : List Rw) (E : Rx.Env → Prop) (σ : Rx.Env) (S' : List O) : Prop := Ex f n inp H ∧ S' = S ++ [.lst (H.map dR)] ∧ E σ
def vlE (f : Fr) (lot : Rw) (A : D) (S0 : List O) (before : Nat) (σ : Rx.Env) : Prop := ∃ p q r t, σ = [some (dF f), some (dR lot), some A, some (.ref S0.length), some (di before), p, q, r, t]
theorem v_closing (k : Nat) (hk : 2 ≤ k) (hf : f.Ok) {lot : Rw} {n : Nat} (h1 : 1 ≤ n) (hn : n ≤ 4) (hB : f.size ^ n ≤ 16) {inp : List Rw} (hl : inp.length ≤ 40) (hi : ∀ r ∈ inp, RwOk f.size n r) {A : D} {S : List O} (hA : seqOf S A = some (inp.map dR)) :
    wp (evF cs T k 24 [dF f, dR lot, A] S) fun d S' => S' = S ∧ ∃ F, ClI f lot n inp F ∧ Closed (isLet lot) (anss f) F ∧ d = .tup ((sset F).map dR) := by
  obtain ⟨k, rfl, hj⟩ := fuel hk
  (refine call_wp (f := f24) rfl rfl ?_; simp only [f24, b24, List.map_cons, List.map_nil, List.replicate_succ, List.replicate_zero, List.cons_append, List.nil_append, Nat.reduceSub])
  refine evB_cons ?_
  simp [hA]
  refine evB_cons ?_
  simp only [eS_whl]
  refine whlL_wp (vcI f lot n inp A S) ?_ _ (2 * (inp.length + 16 - inp.length) + (if 0 = inp.length then 0 else 1)) _ _ (by unfold WF; split <;> omega) ⟨inp, 0, ClI.refl _ _ _ _, rfl, (fun h => by
    have : inp = [] := List.length_eq_zero_iff.mp h.symm
    subst this
    intro a ha; cases ha), rfl, _, _, _, _, rfl⟩
  rintro m σ _ ⟨F, before, cl, rfl, hcl, hm, p, q, r, t, rfl⟩
  have Fl := cl.len
  have Fo := cl.ok hi
  rw [whlC_wp]
  simp [len_ref get0]
  by_cases hb : before = F.length
  · have hb' : ((before : Int) = F.length) := by omega
    simp [hb]
    rw [evB_one]
    simp [seqOf, setSortD_dR (show 0 < n by omega) (show f.size ≤ 64 by have := hf.s3; omega) (show F.length < 64 by omega) Fo]
    rw [fin_app (by simp) (by simp), wp_ok]
    exact ⟨rfl, F, cl, hcl hb, rfl⟩
  · have hb' : ¬ ((before : Int) = F.length) := by omega
    rw [if_neg hb']
    refine evB_cons ?_
    simp [len_ref get0]
    rw [evB_one]
    have tk : ∀ G e : List Rw, G = F ++ e → (G.map dR).take F.length = F.map dR := fun G e h => by
      rw [← List.map_take, h, List.take_left']; rfl
    simp [sli_ref get0, cut_to]
    rw [show List.take F.length (F.map dR) = F.map dR from tk F [] (by simp)]
    refine forL_pre F (fun a σ S' => vlI f n inp S (a.foldl (fun G x => otherF f lot F x G) F) (vlE f lot A S F.length) σ S') (fun _ _ _ _ => rfl) ?_ ?_ ⟨cl.ex, rfl, _, _, _, _, rfl⟩
    · rintro a x b σ _ ea ⟨ex, rfl, p, q, r, t, rfl⟩
      have hx : x ∈ F := by rw [ea]; simp
      have xo := Fo x hx
      obtain ⟨e, pe⟩ := fold_pre (fun G x => otherF_pre f lot F x G) a F
      have fa : (a ++ [x]).foldl (fun G x => otherF f lot F x G) F = otherF f lot F x (a.foldl (fun G x => otherF f lot F x G) F) := by rw [List.foldl_append]; rfl
      rw [fa]
      generalize hG : a.foldl (fun G x => otherF f lot F x G) F = G at *
      rw [forT_put (σ' := [some (dF f), some (dR lot), some A, some (.ref S.length), some (di F.length), some (dR x), q, r, t]) _ _ _ _ (by simp), evB_one]
      simp [sli_ref get0, cut_to]
      rw [tk G e pe]
      refine forL_pre F (fun c σ S' => vlI f n inp S (c.foldl (fun G y => tabF f lot x y G) G) (fun σ => ∃ q r t, σ = [some (dF f), some (dR lot), some A, some (.ref S.length), some (di F.length), some (dR x), q, r, t]) σ S') (fun _ _ _ _ => rfl) ?_ ?_ ⟨ex, rfl, _, _, _, rfl⟩
      · rintro c y d σ _ ec ⟨exH, rfl, q, r, t, rfl⟩
        have hy : y ∈ F := by rw [ec]; simp
        have yo := Fo y hy
        have xl := xo.1
        have yl := yo.1
        have fc : (c ++ [y]).foldl (fun G y => tabF f lot x y G) G = tabF f lot x y (c.foldl (fun G y => tabF f lot x y G) G) := by rw [List.foldl_append]; rfl
        rw [fc]
        generalize hH : c.foldl (fun G y => tabF f lot x y G) G = H at *
        rw [forT_put (σ' := [some (dF f), some (dR lot), some A, some (.ref S.length), some (di F.length), some (dR x), some (dR y), r, t]) _ _ _ _ (by simp), evB_one]
        simp [v_asked k (by omega) (show x.length ≤ 60 by omega) (show y.length ≤ 60 by omega)]
        cases il : isLet lot x y with
        | false =>
          simp [forL]
          refine ⟨by simpa [tabF, il] using exH, by simp [tabF, il], _, _, _, rfl⟩
        | true =>
          simp
          refine forL_pre f.tabs (fun a σ S' => vlI f n inp S (((List.range a.length).map fun t => ans f t x y).foldl addN H) (fun σ => ∃ r t, σ = [some (dF f), some (dR lot), some A, some (.ref S.length), some (di F.length), some (dR x), some (dR y), r, t]) σ S') (fun _ _ _ _ => rfl) ?_ ?_ ⟨exH, rfl, _, _, rfl⟩
          · rintro a tab b σ _ et ⟨exK, rfl, r, t, rfl⟩
            have ht : f.tabs[a.length]? = some tab := by rw [et]; simp
            have nx : ((List.range (a ++ [tab]).length).map fun t => ans f t x y).foldl addN H = addN (((List.range a.length).map fun t => ans f t x y).foldl addN H) (ans f a.length x y) := by
              rw [List.length_append, List.length_cons, List.length_nil, List.range_succ, List.map_append, List.foldl_append]; rfl
            rw [nx]
            generalize hK : ((List.range a.length).map fun t => ans f t x y).foldl addN H = K at *
            have Kl := exK.len
            rw [forT_put (σ' := [some (dF f), some (dR lot), some A, some (.ref S.length), some (di F.length), some (dR x), some (dR y), some (dR tab), t]) _ _ _ _ (by simp)]
            refine evB_cons ?_
            simp [v_answers k (by omega) hf ht (show n ≤ 1000 by omega) xo yo]
            rw [evB_one]
            have add := exK.add (ans_ok hf xo yo a.length)
            simp [hasD_dR_ref _ get0]
            by_cases mK : ans f a.length x y ∈ K
            · simp [mK, addN]
              exact ⟨exK, rfl, _, _, rfl⟩
            · simp [mK, evB_one]
              rw [app0 (by simp; omega), ofO_some]
              refine ⟨add, ?_, _, _, rfl⟩
              rw [addN, if_neg mK]; simp
          · rintro σ _ ⟨exK, rfl, r, t, rfl⟩
            have : tabF f lot x y H = ((List.range f.tabs.length).map fun t => ans f t x y).foldl addN H := by rw [tabF, il]; rfl
            simp
            exact ⟨by rw [this]; exact exK, by rw [this], _, _, _, rfl⟩
      · rintro σ _ ⟨exH, rfl, q, r, t, rfl⟩
        simp
        exact ⟨exH, rfl, _, _, _, _, rfl⟩
    · rintro σ _ ⟨ex, rfl, p, q, r, t, rfl⟩
      rw [pass_eq]
      have cl2 := cl.step hf hi
      have Gl := cl2.len
      obtain ⟨e, pe⟩ := addN_pre (cand (isLet lot) (anss f) F F) F
      have pl : (pass (isLet lot) (anss f) F).length = F.length + e.length := by unfold pass; rw [pe]; simp
      simp
      refine ⟨_, ?_, pass (isLet lot) (anss f) F, F.length, cl2, rfl, fun h => ?_, rfl, _, _, _, _, rfl⟩
      · rw [hm, if_neg hb]
        split <;> omega
      · rw [show pass (isLet lot) (anss f) F = F by
          have : e = [] := List.length_eq_zero_iff.mp (by omega)
          subst this
          unfold pass; rw [pe]; simp]
        exact pass_same h.symm
end
end K66

set_option Elab.async false
set_option autoImplicit false
set_option linter.all false
set_option maxRecDepth 100000
namespace K66
open PySem L2 Rx Pl
section
variable {f : Fr}
/-- the wrong ones of a list -/
theorem comp_bad (k : Nat) (hk : 1 ≤ k) {mm : Nat} {l : List D} (hl : ∀ d ∈ l, d.ok mm = true) (n : Int) {src : Src} (S : List O) (st : src.still S = true) (σ : Rx.Env) (i : Nat) (hi : i < σ.length) (len : X)
    (hlen : ∀ d (P : D → List O → Prop), wp (evE (evF cs T k) cs len ((σ.set i none).set i (some d)) S) P = P (.int n) S) :
    compL src (turnC (evF cs T k) cs σ [i] (.var i) (.nm i) [.not (.call 39 [.var i, len])]) l S = .ok (l.filter fun d => !below n d) S :=
  compL_filtD st l fun d hd => eq_of_wp (by
    rw [turnC_put (σ' := (σ.set i none).set i (some d)) _ _ _ _ (by simp)]
    have e1 : ((σ.set i none).set i (some d))[i]? = some (some d) := by simp [hi]
    simp only [eIfs_one, eE_not, eE_call, eEs_cons, eEs_nil, eE_var, e1, getV_some, hlen, v_number k hk d n S (ok_ty _ (hl d hd)), wp_ok, truD_bl, ofO_some]
    cases below n d <;> simp [hi])
theorem filt_nil {l : List D} {p : D → Bool} : (l.filter fun d => !p d).isEmpty = l.all p := by
  induction l with
  | nil => rfl
  | cons x l ih =>
    rw [List.filter_cons]
    cases h : p x <;> simp_all
theorem eq_filt (S : List O) {mm : Nat} {l : List D} (h : ∀ d ∈ l, d.ok mm = true) (hd : ∀ d ∈ l, d.dep ≤ 50) (p : D → Bool) : eqD S (.lst (l.filter fun d => !p d)) (.lst []) = some (l.all p) := by
  rw [eqD_nilL S (m := mm) (fun d m => h d (List.mem_filter.mp m).1) (fun d m => hd d (List.mem_filter.mp m).1), filt_nil]
theorem endsGo_map {rows : List Rw} : ∀ {e : List D} {W : List Rw}, e.length = W.length → endsGo rows e W = (e.all (below rows.length) && decide (e.map (fun d => rowAt rows (natD d)) = W))
  | [], [], _ => rfl
  | [], _ :: _, h => by simp at h
  | _ :: _, [], h => by simp at h
  | d :: e, w :: W, h => by
    have ih := endsGo_map (rows := rows) (e := e) (W := W) (by simpa using h)
    simp only [endsGo, ih, List.all_cons, List.map_cons, List.cons.injEq, Bool.decide_and]
    cases below (rows.length : Nat) d <;> cases (e.all (below (rows.length : Nat))) <;> cases decide (rowAt rows (natD d) = w) <;> simp
def lwI (f : Fr) (lot : Rw) (data : List Rw) (i : Nat) (W : List Rw) (s e : List D) (S : List O) (a : List D) (σ : Rx.Env) (S' : List O) : Prop :=
  ∃ R, S' = S ++ [.lst (R.map dR)] ∧ R.length = f.regs + a.length ∧ (∀ r ∈ R, RwOk f.size data.length r) ∧ wayGo f lot (begins f data) s = wayGo f lot R (s.drop a.length) ∧ ∃ p q r, σ = [some (dF f), some (dR lot), some (.ref i), some (.lst (W.map dR)), some (.tup s), some (.tup e), some (.ref S.length), p, q, r]
theorem v_is_way (k : Nat) (hk : 2 ≤ k) (hf : f.Ok) {lot : Rw} {data : List Rw} (hdat : ∀ d ∈ data, f.Dat d) (hdl : data.length ≤ 60) {W : List Rw} (hW : W.length = f.regs) {s e : D} (hs : s.ok 60 = true) (he : e.ok 60 = true) (hsd : s.dep ≤ 20) (hed : e.dep ≤ 20) {S : List O} {i : Nat} (hS : S[i]? = some (.lst (data.map dR))) :
    evF cs T k 22 [dF f, dR lot, .ref i, .lst (W.map dR), s, e] S = .ok (.bl (isWayP f lot data W s e)) S := by
  obtain ⟨k, rfl, hj⟩ := fuel hk
  have r4 := hf.r4
  have t4 := hf.t4
  (refine call_eq (f := f22) rfl rfl ?_; simp only [f22, b22, List.map_cons, List.map_nil, List.replicate_succ, List.replicate_zero, List.cons_append, List.nil_append, Nat.reduceSub])
  refine evB_cons ?_
  simp [v_begins k (by omega) hf hdat (show data.length ≤ 1000 by omega) hS]
  refine evB_cons ?_
  simp [isa_T (ok_ty _ hs)]
  cases t1 : isT s with
  | false =>
    simp [evB_one]
    rw [fin_app (by simp) (by simp)]
    simp [isWayP_not1 t1]
  | true =>
  obtain ⟨sl, rfl⟩ := isT_tup t1
  have so := ok_tup.mp hs
  simp [isa_T (ok_ty _ he)]
  cases t2 : isT e with
  | false =>
    simp [evB_one]
    rw [fin_app (by simp) (by simp)]
    simp [isWayP_not2 t2]
  | true =>
  obtain ⟨el, rfl⟩ := isT_tup t2
  have eo := ok_tup.mp he
  simp
  by_cases l1 : el.length = f.regs
  case neg =>
    have l1' : ¬ ((el.length : Int) = f.regs) := by omega
    simp [l1', l1, evB_one]
    rw [fin_app (by simp) (by simp)]
    simp [l1', l1, isWayP]
  simp [l1]
  refine evB_cons ?_
  simp
  have bl : (begins f data).length = f.regs := by simp [begins]
  have sd : ∀ d ∈ sl, d.dep ≤ 19 := dep_tup.mp (by omega)
  have ed : ∀ d ∈ el, d.dep ≤ 19 := dep_tup.mp (by omega)
  refine forL_preD sl (lwI f lot data i W sl el S) (fun _ _ _ _ => rfl) ?_ ?_ ⟨begins f data, rfl, by simp [bl], begins_ok hf hdat, rfl, _, _, _, rfl⟩
  · rintro a d b σ _ ea ⟨R, rfl, hR, hRo, hw, p, q, r, rfl⟩
    have ha : sl[a.length]? = some d := by rw [ea]; simp
    have lt := (List.getElem?_eq_some_iff.mp ha).1
    have dm := List.mem_of_getElem? ha
    have dok := so.2 d dm
    have dr : sl.drop a.length = d :: sl.drop (a.length + 1) := by
      rw [List.drop_eq_getElem_cons lt, (List.getElem?_eq_some_iff.mp ha).2]
    rw [dr] at hw
    have bad : stepGet f.tabs.length R.length d = none → isWayP f lot data W (.tup sl) (.tup el) = false := fun h => by
      rw [wayGo, h] at hw
      simp [isWayP, hw]
    rw [forT_put (σ' := [some (dF f), some (dR lot), some (.ref i), some (.lst (W.map dR)), some (.tup sl), some (.tup el), some (.ref S.length), some d, q, r]) _ _ _ _ (by simp)]
    refine evB_cons ?_
    simp [isa_T (ok_ty _ dok)]
    cases t : isT d with
    | false =>
      simp [evB_one]
      rw [fin_app (by simp) (by simp)]
      simp [bad (stepGet_not t)]
    | true =>
    obtain ⟨l, rfl⟩ := isT_tup t
    simp
    by_cases l3 : l.length = 3
    case neg =>
      have l3' : ¬ ((l.length : Int) = 3) := by omega
      simp [l3', l3, evB_one]
      rw [fin_app (by simp) (by simp)]
      simp [bad (stepGet_len l3)]
    obtain ⟨u, v, w, rfl⟩ := len3 l3
    have oo := (ok_tup.mp dok).2
    have tu := fun S => ok_ty S (oo u (by simp))
    simp [v_number k (by omega) u _ _ (tu _)]
    cases bu : below (f.tabs.length : Nat) u with
    | false =>
      simp [evB_one]
      rw [fin_app (by simp) (by simp)]
      simp [bad (by simp [stepGet, bu])]
    | true =>
    simp
    refine evB_cons ?_
    have ovw : ∀ d ∈ [v, w], d.ok 60 = true := fun d hd => oo d (by simp at hd ⊢; rcases hd with h | h <;> simp [h])
    have dvw : ∀ d ∈ [v, w], d.dep ≤ 50 := fun d hd => Nat.le_trans (dep_tup.mp (sd _ dm) d (by simp at hd ⊢; rcases hd with h | h <;> simp [h])) (by omega)
    simp [-compL_consw, -compL_nilw]
    rw [comp_bad k (by omega) ovw (R.length : Nat) _ rfl _ 8 (by simp) _ (fun d P => by simp [len_ref get0]), wp_ok]
    have z1 : szOk ([v, w].filter fun d => !below (R.length : Nat) d).length = true := szOk_of (Nat.le_trans (List.length_filter_le _ _) (by simp))
    rw [z1, ifB_t, eE_val, eC_disp, eEs_nil, show szOk ([] : List D).length = true by first | rfl | decide | simp, ifB_t, cmp_ne, eq_filt _ ovw dvw]
    simp only [Option.map_some, ofO_some, List.all_cons, List.all_nil, Bool.and_true]
    cases bv : (below (R.length : Nat) v && below (R.length : Nat) w) with
    | false =>
      simp [evB_one]
      rw [fin_app (by simp) (by simp)]
      simp [bad (by simp [stepGet, bu, bv])]
    | true =>
    have hg : stepGet f.tabs.length R.length (.tup [u, v, w]) = some (natD u, natD v, natD w) := by simp [stepGet, bu, bv]
    rw [wayGo_cons hg] at hw
    simp only [Bool.and_eq_true] at bv
    obtain ⟨v0, v1⟩ := below_nat bv.1
    obtain ⟨w0, w1⟩ := below_nat bv.2
    obtain ⟨u0, u1⟩ := below_nat bu
    obtain ⟨v2, v3⟩ := rowAt_lt (rows := R) (i := natD v) (by omega)
    obtain ⟨w2, w3⟩ := rowAt_lt (rows := R) (i := natD w) (by omega)
    have vl := (hRo _ v3).1
    have wl := (hRo _ w3).1
    obtain ⟨tab, ht⟩ : ∃ tab, f.tabs[natD u]? = some tab := ⟨_, List.getElem?_eq_getElem (by omega)⟩
    simp
    refine evB_cons ?_
    have iv : idxD (S ++ [.lst (R.map dR)]) (.ref S.length) v = some (dR (rowAt R (natD v))) := by
      rw [v0, idx_ref get0, Rx.atI_nat, natD_di, List.getElem?_map, v2]; rfl
    have iw : idxD (S ++ [.lst (R.map dR)]) (.ref S.length) w = some (dR (rowAt R (natD w))) := by
      rw [w0, idx_ref get0, Rx.atI_nat, natD_di, List.getElem?_map, w2]; rfl
    have iu : idxD (S ++ [.lst (R.map dR)]) (.tup (f.tabs.map dR)) u = some (dR tab) := by
      rw [u0, idx_tup, Rx.atI_nat, List.getElem?_map, ht]; rfl
    simp [iv, iw, v_asked k (by omega) (show (rowAt R (natD v)).length ≤ 60 by omega) (show (rowAt R (natD w)).length ≤ 60 by omega)]
    by_cases il : isLet lot (rowAt R (natD v)) (rowAt R (natD w)) = true
    · rw [if_pos il] at hw
      rw [il]
      simp [evB_one]
      simp [iv, iw, iu, v_answers k (by omega) hf ht (show data.length ≤ 1000 by omega) (hRo _ v3) (hRo _ w3)]
      rw [app0 (by simp; omega), ofO_some]
      refine ⟨R ++ [ans f (natD u) (rowAt R (natD v)) (rowAt R (natD w))], by simp, by simp; omega, fun x hx => ?_, by simpa using hw, _, _, _, rfl⟩
      rcases List.mem_append.mp hx with h | h
      · exact hRo x h
      · simp at h; subst h; exact ans_ok hf (hRo _ v3) (hRo _ w3) _
    · have il' : isLet lot (rowAt R (natD v)) (rowAt R (natD w)) = false := by simpa using il
      rw [if_neg il] at hw
      rw [il']
      simp [evB_one]
      rw [fin_app (by simp) (by simp)]
      simp [isWayP, hw]
  · rintro σ _ ⟨R, rfl, hR, hRo, hw, p, q, r, rfl⟩
    simp [wayGo] at hw
    simp [-compL_consw, -compL_nilw]
    refine evB_cons ?_
    simp [-compL_consw, -compL_nilw]
    rw [comp_bad k (by omega) eo.2 (R.length : Nat) _ rfl _ 8 (by simp) _ (fun d P => by simp [len_ref get0]), wp_ok]
    have z1 : szOk (el.filter fun d => !below (R.length : Nat) d).length = true := szOk_of (Nat.le_trans (List.length_filter_le _ _) (by omega))
    rw [z1, ifB_t, eE_val, eC_disp, eEs_nil, show szOk ([] : List D).length = true by first | rfl | decide | simp, ifB_t, cmp_ne, eq_filt _ eo.2 (fun d hd => by have := ed d hd; omega)]
    have res : isWayP f lot data W (.tup sl) (.tup el) = (el.all (below (R.length : Nat)) && decide (el.map (fun d => rowAt R (natD d)) = W)) := by
      simp [isWayP, hw, l1, endsGo_map (rows := R) (show el.length = W.length by omega)]
    rw [res]
    simp only [Option.map_some, ofO_some]
    cases ba : el.all (below (R.length : Nat)) with
    | false =>
      simp [evB_one]
      rw [fin_app (by simp) (by simp)]
      simp
    | true =>
      simp [evB_one]
      rw [compL_mapD (g := fun d => dR (rowAt R (natD d))) rfl el fun d hd => eq_of_wp (by
        have b := List.all_eq_true.mp ba d hd
        obtain ⟨v0, v1⟩ := below_nat b
        obtain ⟨v2, v3⟩ := rowAt_lt (rows := R) (i := natD d) (by omega)
        have iv : idxD (S ++ [.lst (R.map dR)]) (.ref S.length) d = some (dR (rowAt R (natD d))) := by
          rw [v0, idx_ref get0, Rx.atI_nat, natD_di, List.getElem?_map, v2]; rfl
        simp [turnC_put, iv])]
      have z2 : szOk el.length = true := szOk_of (by omega)
      simp [z2]
      rw [show el.map (fun d => dR (rowAt R (natD d))) = (el.map fun d => rowAt R (natD d)).map dR by simp, eqD_rowsL]
      simp
      rw [fin_app (by simp) (by simp)]
      simp
theorem filt_rows (R : List Rw) : ∀ B : List Rw, (B.filterMap fun r => if r ∈ R then none else some (dR r)) = (B.filter fun r => !decide (r ∈ R)).map dR
  | [] => rfl
  | x :: B => by
    rw [List.filterMap_cons, List.filter_cons, filt_rows R B]
    by_cases h : x ∈ R <;> simp [h]
theorem filt_all (R : List Rw) : ∀ B : List Rw, decide ((B.filter fun r => !decide (r ∈ R)) = []) = B.all fun r => decide (r ∈ R)
  | [] => rfl
  | x :: B => by
    rw [List.filter_cons, List.all_cons, ← filt_all R B]
    by_cases h : x ∈ R <;> simp [h]
theorem comp_notin (k : Nat) {B R : List Rw} {src : Src} {S : List O} (st : src.still S = true) {a b c d p q : Option D} :
    compL src (turnC (evF cs T k) cs [a, b, c, d, some (.tup (R.map dR)), p, q] [5] (.var 5) (.nm 5) [.cmp .notin (.var 5) (.var 4)]) (B.map dR) S = .ok ((B.filter fun r => !decide (r ∈ R)).map dR) S := by
  rw [compL_filt (enc := dR) (g := fun r => if r ∈ R then none else some (dR r)) st B fun r hr => eq_of_wp (by
    simp [turnC_put]
    by_cases h : r ∈ R <;> simp [h]), filt_rows]
theorem eq_rows_nil (S : List O) (A : List Rw) : eqD S (.lst (A.map dR)) (.lst []) = some (decide (A = [])) := eqD_rowsL S A []
theorem lotOk_none {lot : Rw} {data W : List Rw} {l : List D} (h : rowsGet f.size data.length l = none) : lotOk f lot data W (.tup l) = false := by
  simp only [lotOk, h]
theorem v_is_lot (k : Nat) (hk : 3 ≤ k) (hf : f.Ok) {lot : Rw} {data : List Rw} (hdat : ∀ d ∈ data, f.Dat d) (d1 : 1 ≤ data.length) (d4 : data.length ≤ 4) (hB : f.size ^ data.length ≤ 16) {W : List Rw} (hW : W.length = f.regs) {v : D} (hv : v.ok 40 = true) (hvd : v.dep ≤ 20) {S : List O} {i : Nat} (hS : S[i]? = some (.lst (data.map dR))) :
    evF cs T k 23 [dF f, dR lot, .ref i, .lst (W.map dR), v] S = .ok (.bl (lotOk f lot data W v)) S := by
  obtain ⟨k, rfl, hj⟩ := fuel hk
  have r4 := hf.r4
  have s3 := hf.s3
  (refine call_eq (f := f23) rfl rfl ?_; simp only [f23, b23, List.map_cons, List.map_nil, List.replicate_succ, List.replicate_zero, List.cons_append, List.nil_append, Nat.reduceSub])
  refine evB_cons ?_
  simp [isa_T (ok_ty _ hv)]
  cases t1 : isT v with
  | false => simp [evB_one, lotOk_not t1]
  | true =>
  obtain ⟨l, rfl⟩ := isT_tup t1
  have vo := ok_tup.mp hv
  have vd : ∀ d ∈ l, d.dep ≤ 19 := dep_tup.mp (by omega)
  have vd2 : ∀ d ∈ l, d.dep ≤ 50 := fun d hd => by have := vd d hd; omega
  have fl : ∀ p : D → Bool, szOk (l.filter p).length = true := fun p => szOk_of (Nat.le_trans (List.length_filter_le _ _) (by omega))
  have eqf : ∀ (S : List O) (p : D → Bool), eqD S (.lst (l.filter fun d => !p d)) (.lst []) = some (l.all p) := fun S p => by
    rw [eqD_nilL S (m := 40) (fun d m => vo.2 d (List.mem_filter.mp m).1) (fun d m => vd2 d (List.mem_filter.mp m).1), filt_nil]
  simp
  rw [compL_filtD (p := fun d => !isT d) rfl l fun d hd => eq_of_wp (by
    rw [turnC_put (σ' := [some (dF f), some (dR lot), some (.ref i), some (.lst (W.map dR)), some (.tup l), some d, none]) _ _ _ _ (by simp)]
    simp [isa_T (ok_ty _ (vo.2 d hd))]
    cases isT d <;> simp), wp_ok, fl, ifB_t, eE_val, eC_disp, eEs_nil, show szOk ([] : List D).length = true by first | rfl | decide | simp, ifB_t, cmp_ne, eqf]
  simp only [Option.map_some, ofO_some]
  have sm := rowsGet_isSome (s := f.size) (n := data.length) (l := l)
  have none_of : (rowsGet f.size data.length l).isSome = false → lotOk f lot data W (.tup l) = false := fun h => lotOk_none (by simpa using h)
  cases h1 : l.all isT with
  | false =>
    have : okA data.length l = false := by
      rw [Bool.eq_false_iff]; intro z
      have : l.all isT = true := List.all_eq_true.mpr fun d hd => by
        have := List.all_eq_true.mp z d hd
        simp only [Bool.and_eq_true] at this; exact this.1
      rw [h1] at this; cases this
    rw [this] at sm
    simp [evB_one, none_of (by simpa using sm)]
  | true =>
  simp
  refine evB_cons ?_
  simp [len_ref hS]
  rw [compL_filtD (p := fun d => !decide ((items d).length = data.length)) rfl l fun d hd => eq_of_wp (by
    obtain ⟨q, rfl⟩ := isT_tup (List.all_eq_true.mp h1 d hd)
    rw [turnC_put (σ' := [some (dF f), some (dR lot), some (.ref i), some (.lst (W.map dR)), some (.tup l), some (.tup q), none]) _ _ _ _ (by simp)]
    simp [len_ref hS, items]
    by_cases e : q.length = data.length
    · have e' : ((q.length : Int) = data.length) := by omega
      simp [e]
    · have e' : ¬ ((q.length : Int) = data.length) := by omega
      simp [e, e']), wp_ok, fl, ifB_t, eE_val, eC_disp, eEs_nil, show szOk ([] : List D).length = true by first | rfl | decide | simp, ifB_t, cmp_ne, eqf]
  simp only [Option.map_some, ofO_some]
  cases h2 : l.all fun d => decide ((items d).length = data.length) with
  | false =>
    have : okA data.length l = false := by
      rw [Bool.eq_false_iff]; intro z
      have : (l.all fun d => decide ((items d).length = data.length)) = true := List.all_eq_true.mpr fun d hd => by
        have := List.all_eq_true.mp z d hd
        simp only [Bool.and_eq_true] at this; exact this.2
      rw [h2] at this; cases this
    rw [this] at sm
    simp [evB_one, none_of (by simpa using sm)]
  | true =>
  have hA : okA data.length l = true := List.all_eq_true.mpr fun d hd => by
    simp only [Bool.and_eq_true]
    exact ⟨List.all_eq_true.mp h1 d hd, List.all_eq_true.mp h2 d hd⟩
  rw [hA, Bool.true_and] at sm
  simp
  refine evB_cons ?_
  simp
  refine forL_preD l (fun a σ S' => S' = S ∧ (∀ d ∈ a, (items d).all (below f.size) = true) ∧ ∃ p q, σ = [some (dF f), some (dR lot), some (.ref i), some (.lst (W.map dR)), some (.tup l), p, q]) (fun _ _ _ _ => rfl) ?_ ?_ ⟨rfl, by simp, _, _, rfl⟩
  · rintro a d b σ S2 ea ⟨hS2, ha, p, q, rfl⟩
    have hd : d ∈ l := by rw [ea]; simp
    obtain ⟨z, rfl⟩ := isT_tup (List.all_eq_true.mp h1 d hd)
    have zo : ∀ d ∈ z, d.ok 40 = true := (ok_tup.mp (vo.2 _ hd)).2
    have zd : ∀ d' ∈ z, d'.dep ≤ 50 := fun d' hd' => Nat.le_trans (dep_tup.mp (vd _ hd) d' hd') (by omega)
    rw [forT_put (σ' := [some (dF f), some (dR lot), some (.ref i), some (.lst (W.map dR)), some (.tup l), some (.tup z), q]) _ _ _ _ (by simp), evB_one]
    simp
    rw [comp_bad k (by omega) zo (f.size : Nat) _ rfl _ 6 (by simp) _ (fun d P => by simp), wp_ok]
    have zl := (ok_tup.mp (vo.2 _ hd)).1
    have z1 : szOk (z.filter fun d => !below (f.size : Nat) d).length = true := szOk_of (Nat.le_trans (List.length_filter_le _ _) (by omega))
    rw [z1, ifB_t, eE_val, eC_disp, eEs_nil, show szOk ([] : List D).length = true by first | rfl | decide | simp, ifB_t, cmp_ne, eq_filt _ zo zd]
    simp only [Option.map_some, ofO_some]
    cases hb : z.all (below (f.size : Nat)) with
    | false =>
      have : okBl f.size l = false := by
        rw [Bool.eq_false_iff]; intro y
        have : z.all (below (f.size : Nat)) = true := List.all_eq_true.mpr fun x hx => List.all_eq_true.mp y x (List.mem_flatMap.mpr ⟨_, hd, hx⟩)
        rw [hb] at this; cases this
      rw [this] at sm
      subst hS2
      simp [evB_one, none_of sm]
    | true =>
      simp
      refine ⟨hS2, fun x hx => ?_⟩
      rcases hx with h | h
      · simpa using ha x h
      · subst h; simpa [items] using hb
  · rintro σ S2 ⟨hS2, ha, p, q, rfl⟩
    subst hS2
    have hBb : okBl f.size l = true := List.all_eq_true.mpr fun x hx => by
      obtain ⟨d, hd, hx⟩ := List.mem_flatMap.mp hx
      exact List.all_eq_true.mp (ha d hd) x hx
    rw [hBb] at sm
    obtain ⟨R, hR⟩ := Option.isSome_iff_exists.mp sm
    obtain ⟨rfl, hRo⟩ := rowsGet_some hR
    have Rl : R.length ≤ 40 := by simpa using vo.1
    simp
    refine evB_cons ?_
    simp [setSortD_dR (show 0 < data.length by omega) (show f.size ≤ 64 by omega) (show R.length < 64 by omega) hRo, eqD_rowsL]
    have e0 : decide (R = sset R) = ascB R := by
      rw [Bool.eq_iff_iff, decide_eq_true_eq, ascB_iff, ← sset_eq]
      exact eq_comm
    rw [e0]
    have bad : ascB R = false → lotOk f lot data W (.tup (R.map dR)) = false := fun h => by simp [lotOk, hR, h]
    cases hC : ascB R with
    | false => simp [evB_one, bad hC]
    | true =>
    simp [v_begins k (by omega) hf hdat (show data.length ≤ 1000 by omega) hS, srcOf_ref get0]
    rw [comp_notin k (still_at get0), wp_ok]
    have z1 : ∀ B : List Rw, B.length ≤ 1000 → szOk ((B.filter fun r => !decide (r ∈ R)).map dR).length = true := fun B h => szOk_of (by rw [List.length_map]; exact Nat.le_trans (List.length_filter_le _ _) (by omega))
    have bl : (begins f data).length = f.regs := by simp [begins]
    rw [z1 _ (by omega), ifB_t, eE_val, eC_disp, eEs_nil, show szOk ([] : List D).length = true by first | rfl | decide | simp, ifB_t, cmp_ne, eq_rows_nil, filt_all]
    simp only [Option.map_some, ofO_some]
    cases hD : (begins f data).all fun r => decide (r ∈ R) with
    | false =>
      have : lotOk f lot data W (.tup (R.map dR)) = false := by simp [lotOk, hR, hC, hD]
      simp [evB_one]
      rw [fin_app (by simp) (by simp)]
      simp [this]
    | true =>
    simp
    rw [evB_one]
    simp
    refine wp_mono (v_closing k (by omega) hf d1 d4 hB Rl hRo (A := .tup (R.map dR)) rfl) ?_
    rintro _ _ ⟨rfl, F, cl, hcl, rfl⟩
    have ce := closing_eq (ascB_iff.mp hC) cl hcl
    simp [eqD_rowsT, ce]
    have res : lotOk f lot data W (.tup (R.map dR)) = (closedB f lot R && !(W.all fun r => decide (r ∈ R))) := by simp [lotOk, hR, hC, hD]
    rw [res]
    cases hE : closedB f lot R with
    | false =>
      simp
      rw [fin_app (by simp) (by simp)]
      simp
    | true =>
      simp
      rw [comp_notin k rfl, wp_ok, z1 _ (by omega), ifB_t, eE_val, eC_disp, eEs_nil, show szOk ([] : List D).length = true by first | rfl | decide | simp, ifB_t, cmp_ne, eq_rows_nil, filt_all]
      simp only [Option.map_some, ofO_some]
      rw [endP_ret, fin_app (by simp) (by simp)]
      simp
theorem v_holds (k : Nat) (hk : 4 ≤ k) (hf : f.Ok) {lot : Rw} {data : List Rw} (hdat : ∀ d ∈ data, f.Dat d) (d1 : 1 ≤ data.length) (d4 : data.length ≤ 4) (hB : f.size ^ data.length ≤ 16) {W : List Rw} (hW : W.length = f.regs) {v : D} (hv : v.ok 40 = true) (hvd : v.dep ≤ 20) {S : List O} {i : Nat} (hS : S[i]? = some (.lst (data.map dR))) :
    evF cs T k 4 [dF f, dR lot, .ref i, .lst (W.map dR), v] S = .ok (.bl (holds f lot data W v)) S := by
  obtain ⟨k, rfl, hj⟩ := fuel hk
  (refine call_eq (f := f4) rfl rfl ?_; simp only [f4, b4, List.map_cons, List.map_nil, List.replicate_succ, List.replicate_zero, List.cons_append, List.nil_append, Nat.reduceSub])
  refine evB_cons ?_
  simp [isa_T (ok_ty _ hv)]
  cases tv : isT v with
  | false => simp [evB_one, holds_not tv]
  | true =>
  obtain ⟨q, rfl⟩ := isT_tup tv
  have qo := ok_tup.mp hv
  have qd : ∀ d ∈ q, d.dep ≤ 19 := dep_tup.mp (by omega)
  simp [has23]
  by_cases l23 : q.length = 2 ∨ q.length = 3
  case neg =>
    have e : ¬ q.length = 2 := fun z => l23 (.inl z)
    have e3 : ¬ q.length = 3 := fun z => l23 (.inr z)
    simp [e, e3, evB_one, holds_len e e3]
  have l23' : (!decide (q.length = 2) && !decide (q.length = 3)) = false := by rcases l23 with h | h <;> simp [h]
  rw [l23']
  simp
  obtain ⟨x, q', rfl⟩ : ∃ x q', q = x :: q' := by
    cases q with
    | nil => simp at l23
    | cons x q' => exact ⟨x, q', rfl⟩
  have xo := qo.2 x (by simp)
  simp [isa_S (ok_ty _ xo)]
  cases ts : isS x with
  | false => simp [evB_one, holds_str ts]
  | true =>
  obtain ⟨x, rfl⟩ := isS_str ts
  have xs : PyData.strOk x = true := by simpa using xo
  simp
  refine evB_cons ?_
  rcases l23 with h | h
  · obtain ⟨w, rfl⟩ : ∃ w, q' = [w] := by
      match q', h with
      | [w], _ => exact ⟨w, rfl⟩
    have wo' := qo.2 w (by simp)
    have wd := qd w (by simp)
    simp [evB_one, eqD_strS xs]
    by_cases hx : x = Str.ofString "lot"
    case neg => simp [hx, holds]
    simp [hx, v_is_lot k (by omega) hf hdat d1 d4 hB hW wo' (show w.dep ≤ 20 by omega) hS, holds]
  · obtain ⟨w, u, rfl⟩ : ∃ w u, q' = [w, u] := by
      match q', h with
      | [w, u], _ => exact ⟨w, u, rfl⟩
    have wo' := ok_mono (show 40 ≤ 60 by omega) (qo.2 w (by simp))
    have uo' := ok_mono (show 40 ≤ 60 by omega) (qo.2 u (by simp))
    have wd := qd w (by simp)
    have ud := qd u (by simp)
    simp [evB_one, eqD_strS xs]
    by_cases hx : x = Str.ofString "way"
    case neg => simp [hx, holds]
    simp [hx, v_is_way k (by omega) hf hdat (show data.length ≤ 60 by omega) hW wo' uo' (show w.dep ≤ 20 by omega) (show u.dep ≤ 20 by omega) hS, holds]
end
end K66

set_option Elab.async false
set_option autoImplicit false
set_option linter.all false
set_option maxRecDepth 100000
namespace K66
open PySem L2 Rx Pl
/-! ### draws -/
theorem getLast_int (g : List Int) : (g.map D.int).getLast? = g.getLast?.map D.int := by simp
theorem v_drawn (k : Nat) (hk : 1 ≤ k) {g : List Int} {m : Int} {S : List O} (hg : g.length ≤ 40) {n : Nat} (h1 : 1 ≤ n) (h2 : n ≤ 1000) :
    wp (evF cs T k 8 [.ref 1, di n] (wellS g m S)) (Drew n S) := by
  obtain ⟨k, rfl, hj⟩ := fuel hk
  (refine call_wp (f := f8) rfl rfl ?_; simp only [f8, b8, List.map_cons, List.map_nil, List.replicate_succ, List.replicate_zero, List.cons_append, List.nil_append, Nat.reduceSub])
  have rest : ∀ g' : List Int, g'.length ≤ 40 → wp (evB (evF cs T k) cs [.ite (.cmp .gt (.bi .len [.idx (.var 0) (.lit (.int 0))]) (.lit (.int 0))) [.asg (.nm 2) (.pop (.idx (.var 0) (.lit (.int 0))) []), .append (.idx (.var 0) (.lit (.int 0))) (.bin .fdiv (.var 2) (.var 1)), .ret (.bin .mod (.var 2) (.var 1))] [],
      .asg (.sub (.var 0) (.lit (.int 1))) (.bin .mod (.bin .add (.bin .mul (.idx (.var 0) (.lit (.int 1))) (.lit (.int 62089911))) (.lit (.int 4349))) (.lit (.int 2147483579))),
      .ret (.bin .mod (.bin .fdiv (.idx (.var 0) (.lit (.int 1))) (.lit (.int 97))) (.var 1))] [some (.ref 1), some (di n), none] (wellS g' m S)) (endP true (wellS g m S) (Drew n S)) := by
    intro g' hl
    refine evB_cons ?_
    rcases List.eq_nil_or_concat g' with rfl | ⟨L, x, hLx⟩
    · simp [idx_well1_0, len_well0]
      refine evB_cons ?_
      simp [idx_well1_1, bin_mul _ (mulOk_r m (show (0 : Int) ≤ 62089911 by omega) (by omega)), bin_mod, setD_well]
      obtain ⟨v, hv, e⟩ := mod_nat (i := (m * 62089911 + 4349) % 2147483579 / 97) h1
      rw [evB_one]
      simp [idx_well1_1, bin_fdiv]
      rw [bin_mod _ (by omega), e]
      simp
      rw [fin_well0 rfl (by simp) (by simp)]
      simp
      exact ⟨v, [], _, hv, by simp, rfl, rfl⟩
    · rw [List.concat_eq_append] at hLx
      subst hLx
      rw [List.length_append] at hl
      simp at hl
      obtain ⟨v, hv, e⟩ := mod_nat (i := x) h1
      simp [idx_well1_0, len_well0]
      refine evB_cons ?_
      simp [idx_well1_0, pop_well]
      refine evB_cons ?_
      simp [idx_well1_0, isL_well, bin_fdiv _ (show (0 : Int) < n by omega) (show (n : Int) ≤ 1000000 by omega), app_well (show L.length ≤ 1000 by omega)]
      rw [evB_one]
      simp
      rw [bin_mod _ (by omega), e]
      simp
      rw [fin_well0 rfl (by simp) (by simp)]
      simp
      exact ⟨v, _, _, hv, by simp; omega, rfl, rfl⟩
  refine evB_cons ?_
  simp only [eS_whl]
  refine whlL_wp (fun j σ S' => ∃ g', g'.length = j ∧ j ≤ 40 ∧ S' = wellS g' m S ∧ σ = [some (.ref 1), some (di n), none]) ?_ _ g.length _ _ (by unfold WF; omega) ⟨g, rfl, hg, rfl, rfl⟩
  rintro j σ _ ⟨g', rfl, hl, rfl, rfl⟩
  rw [whlC_wp]
  have rg := rest g' hl
  rcases List.eq_nil_or_concat g' with rfl | ⟨L, x, hLx⟩
  · simp [idx_well1_0, len_well0]
    exact rg
  · rw [List.concat_eq_append] at hLx
    subst hLx
    have il : idxD (wellS (L ++ [x]) m S) (.ref 0) (.int (-1)) = some (.int x) := by
      rw [idx_ref well0, Rx.atI_last]; simp
    simp [idx_well1_0, len_well0, il]
    by_cases hx : x = 0
    · subst hx
      simp [evB_one, idx_well1_0, pop_well]
      exact ⟨L.length, by omega, L, rfl, by simp at hl; omega, rfl⟩
    · simp [hx]
      simpa using rg
theorem v_drawnZ (k : Nat) (hk : 1 ≤ k) {g : List Int} {m : Int} {S : List O} (hg : g.length ≤ 40) (n : Nat) {z : Int} (hz : z = (n : Nat)) (h1 : 1 ≤ n) (h2 : n ≤ 1000) :
    wp (evF cs T k 8 [.ref 1, .int z] (wellS g m S)) (Drew n S) := by
  subst hz; exact v_drawn k hk hg h1 h2
theorem v_one_of (k : Nat) (hk : 2 ≤ k) {g : List Int} {m : Int} {S : List O} (hg : g.length ≤ 40) {l : List D} (h1 : 1 ≤ l.length) (h2 : l.length ≤ 1000) (hc : ∀ d ∈ l, (∀ i, d ≠ .ref i) ∧ ∀ n, d.clean n = true) :
    wp (evF cs T k 9 [.ref 1, .lst l] (wellS g m S)) (OneOf l S) := by
  obtain ⟨k, rfl, hj⟩ := fuel hk
  (refine call_wp (f := f9) rfl rfl ?_; simp only [f9, b9, List.map_cons, List.map_nil, List.replicate_succ, List.replicate_zero, List.cons_append, List.nil_append, Nat.reduceSub])
  refine evB_cons ?_
  simp
  refine wp_mono (v_drawn k (by omega) hg h1 h2) ?_
  rintro _ _ ⟨v, g', m', hv, hg', rfl, rfl⟩
  simp
  rw [List.getElem?_eq_getElem hv, ofO_some]
  have q := hc _ (List.getElem_mem hv)
  rw [cont_ret, endP_ret, fin_well0 rfl q.1 (q.2 _), wp_ok]
  exact ⟨v, g', m', List.getElem?_eq_getElem hv, hg', rfl⟩
/-- draws in a row -/
theorem comp_draws (k : Nat) (hk : 1 ≤ k) {n : Nat} (h1 : 1 ≤ n) (h2 : n ≤ 1000) {σ : Rx.Env} {i : Nat} (h0 : σ[0]? = some (some (.ref 1))) (hi : i ≠ 0) {len : X} (he : ∀ d S (P : D → List O → Prop), wp (evE (evF cs T k) cs len ((σ.set i none).set i (some d)) S) P = P (di n) S)
    {q : List D} (l : List D) {g : List Int} {m : Int} {S : List O} (hg : g.length ≤ 40) :
    wp (compL ⟨[], q⟩ (turnC (evF cs T k) cs σ [i] (.call 8 [.var 0, len]) (.nm i) []) l (wellS g m S)) (Drawns n l.length S) := by
  refine compL_wp0 (fun acc rest S' => ∃ (vs : List Nat) (g' : List Int) (m' : Int), vs.length + rest.length = l.length ∧ (∀ v ∈ vs, v < n) ∧ g'.length ≤ 40 ∧ acc = vs.map di ∧ S' = wellS g' m' S) ⟨[], g, m, by simp, by simp, hg, rfl, rfl⟩ (fun _ _ _ _ => rfl) ?_ ?_
  · rintro acc d rest S' ⟨vs, g', m', hl, hv, hg', rfl, rfl⟩
    rw [turnC_put (σ' := (σ.set i none).set i (some d)) _ _ _ _ (by simp)]
    have e0 : ((σ.set i none).set i (some d))[0]? = some (some (.ref 1)) := by simp [hi, h0]
    simp only [eIfs_nil, ifB_t, eE_call, eEs_cons, eEs_nil, eE_var, e0, getV_some, he]
    refine wp_mono (v_drawn k hk hg' h1 h2) ?_
    rintro _ _ ⟨v, g2, m2, hv2, hg2, rfl, rfl⟩
    refine ⟨vs ++ [v], g2, m2, by simp at hl ⊢; omega, fun x hx => ?_, hg2, by simp, rfl⟩
    rcases List.mem_append.mp hx with z | z
    · exact hv x z
    · simp at z; subst z; exact hv2
  · rintro acc S' ⟨vs, g', m', hl, hv, hg', rfl, rfl⟩
    exact ⟨vs, g', m', by simpa using hl, hv, hg', rfl, rfl⟩
section
variable {f : Fr}
theorem v_data (k : Nat) (hk : 1 ≤ k) (n : Nat) (hn : f.regs + f.cells = n) (h1 : 1 ≤ n) (h7 : n ≤ 7) (S : List O) : evF cs T k 10 [dF f] S = .ok (.lst ((srt (dat2 n)).map dR)) S := by
  obtain ⟨k, rfl, hj⟩ := fuel hk
  (refine call_eq (f := f10) rfl rfl ?_; simp only [f10, b10, List.map_cons, List.map_nil, List.replicate_succ, List.replicate_zero, List.cons_append, List.nil_append, Nat.reduceSub])
  refine evB_cons ?_
  simp
  refine evB_cons ?_
  have e : ((f.regs : Int) + f.cells) = (n : Nat) := by omega
  have z : rngD [di n] = some ((List.range n).map di) := rngD_nat (by omega)
  simp [e, z]
  have p7 : ∀ a, a ≤ 7 → (dat2 a).length ≤ 128 := fun a ha => by
    rw [dat2_len]
    exact Nat.le_trans (Nat.pow_le_pow_right (by omega) ha) (by decide)
  refine forL_pre (List.range n) (fun a σ S' => S' = S ∧ ∃ p, σ = [some (dF f), some (.lst ((dat2 a.length).map dR)), p, none]) (fun _ _ _ _ => rfl) ?_ ?_ ⟨rfl, _, rfl⟩
  · rintro a t b σ _ ea ⟨rfl, p, rfl⟩
    have al : a.length < n := by
      have := congrArg List.length ea
      simp at this; omega
    have pl := p7 a.length (by omega)
    have pl2 := p7 (a.length + 1) (by omega)
    rw [forT_put (σ' := [some (dF f), some (.lst ((dat2 a.length).map dR)), some (di t), none]) _ _ _ _ (by simp), evB_one]
    have tr : ∀ (x : Nat) (src : Src) (S : List O), src.still S = true → compL src (turnC (evF cs T k) cs [some (dF f), some (.lst ((dat2 a.length).map dR)), some (di t), none] [3] (.bin .add (.var 3) (.tup [.lit (.int x)])) (.nm 3) []) ((dat2 a.length).map dR) S = .ok (((dat2 a.length).map (· ++ [x])).map dR) S := fun x src S st => by
      rw [compL_map (enc := dR) (g := fun r => dR (r ++ [x])) st (dat2 a.length) fun r hr => eq_of_wp (by
        have rl := (dat2_ok _ r hr).1
        simp [turnC_put]
        rw [dR_def, bin_tup _ (by simp; omega), ofO_some]
        simp [dR_def])]
      simp
    have z1 : szOk (dat2 a.length).length = true := szOk_of (by omega)
    have t0 := fun src S st => tr 0 src S st
    have t1 := fun src S st => tr 1 src S st
    simp only [Int.natCast_zero, Int.natCast_one] at t0 t1
    simp
    rw [t0 _ _ rfl]
    simp [z1]
    rw [t1 _ _ rfl]
    simp [z1]
    rw [bin_lst _ (by simp; omega), ofO_some]
    simp [dat2]
  · rintro σ _ ⟨rfl, p, rfl⟩
    simp
    have ne : ∀ r ∈ dat2 n, r ≠ [] := fun r h e => by
      have := (dat2_ok n r h).1
      rw [e] at this; simp at this; omega
    rw [evB_one]
    simp [sortD_dR ne]
end
end K66

set_option Elab.async false
set_option autoImplicit false
set_option linter.all false
set_option maxRecDepth 100000
namespace K66
open PySem L2 Rx Pl
section
variable {f : Fr}
theorem rows_tail (k : Nat) (hf : f.Ok) (hc : f.cells = 0) {kind x y w : Nat} {most deep : D} {ix : Nat} {g : List Int} {m : Int} {S : List O} {l : List D} {t u : Option D} (hix : ix = S.length + 2) (ll : l.length ≤ 1000000) (Q : Fl → List O → Prop)
    (hQ : ∀ rr : Row, (rr = .fence ∨ (rr = .op 0 x y w ∧ f.tabs ≠ [])) → Q (.nx [some (.ref 1), some (dF f), some most, some deep, some (.ref ix), t, some (di kind), some (.lst [di x, di y, di w]), u, none, none]) (wellS g m (S ++ [.lst (l ++ [dRow rr])]))) :
    wp (evB (evF cs T k) cs [.ite (.cmp .eq (.var 6) (.lit (.int 3))) [.append (.var 4) (.ite (.or [.cmp .eq (.idx (.var 1) (.lit (.int 2))) (.lit (.int 0)), .cmp .eq (.call 8 [.var 0, .lit (.int 3)]) (.lit (.int 0))]) (.tup [.lit (.str "fence")]) (.tup [.lit (.str "store"), .idx (.var 7) (.lit (.int 0)), .idx (.var 7) (.lit (.int 1))]))]
      [.ite (.and [.cmp .eq (.var 6) (.lit (.int 4)), .cmp .gt (.idx (.var 1) (.lit (.int 2))) (.lit (.int 0))]) [.append (.var 4) (.tup [.lit (.str "load"), .idx (.var 7) (.lit (.int 0)), .idx (.var 7) (.lit (.int 1))])]
        [.ite (.cmp .eq (.idx (.var 1) (.lit (.int 3))) (.tup [])) [.append (.var 4) (.tup [.lit (.str "fence")])] [.append (.var 4) (.bin .add (.tup [.lit (.str "op"), .lit (.int 0)]) (.bi .tuple [.var 7]))]]]]
      [some (.ref 1), some (dF f), some most, some deep, some (.ref ix), t, some (di kind), some (.lst [di x, di y, di w]), u, none, none] (wellS g m (S ++ [.lst l]))) Q := by
  subst hix
  have nn : (f.cells : Int) = 0 := by omega
  rw [evB_one]
  by_cases k3 : kind = 3
  · have k3' : ((kind : Int) = 3) := by omega
    simp [k3', evB_one, nn, isL_w, app_w ll]
    exact hQ .fence (.inl rfl)
  · have k3' : ¬ ((kind : Int) = 3) := by omega
    simp [k3', evB_one, nn]
    have fin : wp (evS (evF cs T k) cs (.ite (.cmp .eq (.idx (.var 1) (.lit (.int 3))) (.tup [])) [.append (.var 4) (.tup [.lit (.str "fence")])] [.append (.var 4) (.bin .add (.tup [.lit (.str "op"), .lit (.int 0)]) (.bi .tuple [.var 7]))])
      [some (.ref 1), some (dF f), some most, some deep, some (.ref (S.length + 2)), t, some (di kind), some (.lst [di x, di y, di w]), u, none, none] (wellS g m (S ++ [.lst l]))) Q := by
      simp [eq_tabs_nil]
      by_cases tn : f.tabs = []
      · simp [tn, evB_one, isL_w, app_w ll]
        exact hQ .fence (.inl rfl)
      · simp [tn, evB_one, isL_w]
        rw [bin_tup _ (by simp), ofO_some, app_w ll, ofO_some]
        exact hQ (.op 0 x y w) (.inr ⟨rfl, tn⟩)
    by_cases k4 : kind = 4
    · have k4' : ((kind : Int) = 4) := by omega
      simp [k4', evB_one, hc]
      simpa using fin
    · have k4' : ¬ ((kind : Int) = 4) := by omega
      simp [k4', evB_one, hc]
      simpa using fin
theorem rows_tail0 (k : Nat) (hf : f.Ok) (hc : f.cells = 0) {kind x y w : Nat} {most : D} {ix : Nat} {g : List Int} {m : Int} {S : List O} {l : List D} {t u : Option D} (hix : ix = S.length + 2) (ll : l.length ≤ 1000000) (Q : Fl → List O → Prop)
    (hQ : ∀ rr : Row, (rr = .fence ∨ (rr = .op 0 x y w ∧ f.tabs ≠ [])) → Q (.nx [some (.ref 1), some (dF f), some most, some (.int 0), some (.ref ix), t, some (di kind), some (.lst [di x, di y, di w]), u, none, none]) (wellS g m (S ++ [.lst (l ++ [dRow rr])]))) :
    wp (evB (evF cs T k) cs [.ite (.and [.cmp .eq (.var 6) (.lit (.int 2)), .cmp .gt (.var 3) (.lit (.int 0))]) [.append (.var 4) (.tup [.lit (.str "loop"), .call 8 [.var 0, .lit (.int 3)], .call 11 [.var 0, .var 1, .lit (.int 2), .bin .sub (.var 3) (.lit (.int 1))]])] [.ite (.cmp .eq (.var 6) (.lit (.int 3))) [.append (.var 4) (.ite (.or [.cmp .eq (.idx (.var 1) (.lit (.int 2))) (.lit (.int 0)), .cmp .eq (.call 8 [.var 0, .lit (.int 3)]) (.lit (.int 0))]) (.tup [.lit (.str "fence")]) (.tup [.lit (.str "store"), .idx (.var 7) (.lit (.int 0)), .idx (.var 7) (.lit (.int 1))]))]
      [.ite (.and [.cmp .eq (.var 6) (.lit (.int 4)), .cmp .gt (.idx (.var 1) (.lit (.int 2))) (.lit (.int 0))]) [.append (.var 4) (.tup [.lit (.str "load"), .idx (.var 7) (.lit (.int 0)), .idx (.var 7) (.lit (.int 1))])]
        [.ite (.cmp .eq (.idx (.var 1) (.lit (.int 3))) (.tup [])) [.append (.var 4) (.tup [.lit (.str "fence")])] [.append (.var 4) (.bin .add (.tup [.lit (.str "op"), .lit (.int 0)]) (.bi .tuple [.var 7]))]]]]]
      [some (.ref 1), some (dF f), some most, some (.int 0), some (.ref ix), t, some (di kind), some (.lst [di x, di y, di w]), u, none, none] (wellS g m (S ++ [.lst l]))) Q := by
  rw [evB_one]
  by_cases k3 : kind = 2
  · have k3' : ((kind : Int) = 2) := by omega
    have := rows_tail k hf hc (kind := kind) (x := x) (y := y) (w := w) (most := most) (deep := .int 0) (g := g) (m := m) (t := t) (u := u) hix ll Q hQ
    simp [k3']
    exact this
  · have k3' : ¬ ((kind : Int) = 2) := by omega
    have := rows_tail k hf hc (kind := kind) (x := x) (y := y) (w := w) (most := most) (deep := .int 0) (g := g) (m := m) (t := t) (u := u) hix ll Q hQ
    simp [k3']
    simpa using this
def rwI (f : Fr) (most deep : Nat) (S : List O) (a : List Nat) (σ : Rx.Env) (S' : List O) : Prop :=
  ∃ (l : List Row) (g' : List Int) (m' : Int), Drawn f most deep l ∧ l.length = a.length ∧ g'.length ≤ 40 ∧ S' = wellS g' m' (S ++ [.lst (dRows l)]) ∧ ∃ p q r t, σ = [some (.ref 1), some (dF f), some (di most), some (di deep), some (.ref (S.length + 2)), p, q, r, t, none, none]
theorem v_rows (hf : f.Ok) (hc : f.cells = 0) : ∀ (deep k : Nat), deep + 2 ≤ k → ∀ (most : Nat), most ≤ 100 → ∀ (g : List Int) (m : Int) (S : List O), g.length ≤ 40 →
    wp (evF cs T k 11 [.ref 1, dF f, di most, di deep] (wellS g m S)) (DrewRows f most deep S) := by
  intro deep
  induction deep with
  | zero =>
    intro k hk most hm g m S hg
    have r4 := hf.r4
    have r1 := hf.r1
    obtain ⟨k, rfl, hj⟩ := fuel (n := 1) hk
    (refine call_wp (f := f11) rfl rfl ?_; simp only [f11, b11, List.map_cons, List.map_nil, List.replicate_succ, List.replicate_zero, List.cons_append, List.nil_append, Nat.reduceSub])
    refine evB_cons ?_
    simp [well_app, well_len]
    refine evB_cons ?_
    simp
    rw [show ((most : Int) + 1) = ((most + 1 : Nat) : Int) from rfl]
    refine wp_mono (v_drawn k (by omega) hg (n := most + 1) (by omega) (by omega)) ?_
    rintro _ _ ⟨v, g1, m1, hv, hg1, rfl, rfl⟩
    have z : rngD [di v] = some ((List.range v).map di) := rngD_nat (by omega)
    simp [z]
    refine forL_pre (List.range v) (rwI f most 0 S) (fun _ _ _ _ => rfl) ?_ ?_ ⟨[], g1, m1, Drawn.nil _ _ _, rfl, hg1, rfl, _, _, _, _, rfl⟩
    · rintro a t b σ _ ea ⟨l, g2, m2, hl, hla, hg2, rfl, p, q, r, u, rfl⟩
      have av : a.length < v := by
        have := congrArg List.length ea
        simp at this; omega
      rw [forT_put (σ' := [some (.ref 1), some (dF f), some (di most), some (di 0), some (.ref (S.length + 2)), some (di t), q, r, u, none, none]) _ _ _ _ (by simp)]
      refine evB_cons ?_
      simp
      rw [show D.int 8 = di 8 from rfl]
      refine wp_mono (v_drawn k (by omega) hg2 (n := 8) (by omega) (by omega)) ?_
      rintro _ _ ⟨kind, g3, m3, hkind, hg3, rfl, rfl⟩
      simp
      refine evB_cons ?_
      simp [rng3, -compL_consw, -compL_nilw]
      refine wp_mono (comp_draws k (by omega) (n := f.regs) r1 (by omega) (σ := [some (.ref 1), some (dF f), some (di most), some (di 0), some (.ref (S.length + 2)), some (di t), some (di kind), r, u, none, none]) (i := 9) rfl (by omega) (fun d S P => by simp) [di 0, di 1, di 2] hg3) ?_
      rintro _ _ ⟨vs, g4, m4, hvs, hvl, hg4, rfl, rfl⟩
      obtain ⟨x, y, w, rfl⟩ := three hvs
      have hx := hvl x (by simp)
      have hy := hvl y (by simp)
      have hw := hvl w (by simp)
      have ll : (dRows l).length ≤ 1000000 := by simp; omega
      simp
      rw [evB_one]
      have snoc : ∀ (rr : Row) (σ : Rx.Env) (S' : List O) (g' : List Int) (m' : Int), rr.Ok f ∧ rr.dep ≤ 0 ∧ rr.wid ∧ rr.sz ≤ rB 0 → g'.length ≤ 40 → S' = wellS g' m' (S ++ [.lst (dRows l ++ [dRow rr])]) → (∃ p q r t, σ = [some (.ref 1), some (dF f), some (di most), some (di 0), some (.ref (S.length + 2)), p, q, r, t, none, none]) → rwI f most 0 S (a ++ [t]) σ S' := by
        intro rr σ S' g' m' h hg' e hσ
        exact ⟨l ++ [rr], g', m', hl.snoc (by omega) h.1 h.2.1 h.2.2.1 h.2.2.2, by simp; omega, hg', by rw [e]; simp, hσ⟩
      have simp_row : ∀ rr : Row, (rr = .fence ∨ (rr = .op 0 x y w ∧ f.tabs ≠ [])) → rr.Ok f ∧ rr.dep ≤ 0 ∧ rr.wid ∧ rr.sz ≤ rB 0 := by
        have := rB_pos 0
        rintro rr (rfl | ⟨rfl, hn⟩)
        · exact ⟨trivial, Nat.zero_le _, trivial, this⟩
        · exact ⟨⟨List.length_pos_iff.mpr hn, hx, hy, hw⟩, Nat.zero_le _, trivial, this⟩
      by_cases k2 : kind < 2
      · have k2' : ((kind : Int) < 2) := by omega
        simp [k2']
        refine rows_tail0 k hf hc rfl ll _ fun rr hrr => snoc rr _ _ _ _ (simp_row rr hrr) hg4 rfl ⟨_, _, _, _, rfl⟩
      · have k2' : ¬ ((kind : Int) < 2) := by omega
        simp [k2']
        refine rows_tail0 k hf hc rfl ll _ fun rr hrr => snoc rr _ _ _ _ (simp_row rr hrr) hg4 rfl ⟨_, _, _, _, rfl⟩
    · rintro σ _ ⟨l, g2, m2, hl, hla, hg2, rfl, p, q, r, u, rfl⟩
      simp
      rw [evB_one]
      simp [tuple_ref get_w]
      rw [fin_rows (f := f) (by rw [well_len]), wp_ok]
      exact ⟨l, g2, m2, hl, hg2, rfl, rfl⟩
  | succ deep ih =>
    intro k hk most hm g m S hg
    have r4 := hf.r4
    have r1 := hf.r1
    obtain ⟨k, rfl, hj⟩ := fuel (n := deep + 2) hk
    (refine call_wp (f := f11) rfl rfl ?_; simp only [f11, b11, List.map_cons, List.map_nil, List.replicate_succ, List.replicate_zero, List.cons_append, List.nil_append, Nat.reduceSub])
    refine evB_cons ?_
    simp [well_app, well_len]
    refine evB_cons ?_
    simp
    rw [show ((most : Int) + 1) = ((most + 1 : Nat) : Int) from rfl]
    refine wp_mono (v_drawn k (by omega) hg (n := most + 1) (by omega) (by omega)) ?_
    rintro _ _ ⟨v, g1, m1, hv, hg1, rfl, rfl⟩
    have z : rngD [di v] = some ((List.range v).map di) := rngD_nat (by omega)
    simp [z]
    refine forL_pre (List.range v) (rwI f most (deep + 1) S) (fun _ _ _ _ => rfl) ?_ ?_ ⟨[], g1, m1, Drawn.nil _ _ _, rfl, hg1, rfl, _, _, _, _, rfl⟩
    · rintro a t b σ _ ea ⟨l, g2, m2, hl, hla, hg2, rfl, p, q, r, u, rfl⟩
      have av : a.length < v := by
        have := congrArg List.length ea
        simp at this; omega
      rw [forT_put (σ' := [some (.ref 1), some (dF f), some (di most), some (di (deep + 1)), some (.ref (S.length + 2)), some (di t), q, r, u, none, none]) _ _ _ _ (by simp)]
      refine evB_cons ?_
      simp
      rw [show D.int 8 = di 8 from rfl]
      refine wp_mono (v_drawn k (by omega) hg2 (n := 8) (by omega) (by omega)) ?_
      rintro _ _ ⟨kind, g3, m3, hkind, hg3, rfl, rfl⟩
      simp
      refine evB_cons ?_
      simp [rng3, -compL_consw, -compL_nilw]
      refine wp_mono (comp_draws k (by omega) (n := f.regs) r1 (by omega) (σ := [some (.ref 1), some (dF f), some (di most), some (di (deep + 1)), some (.ref (S.length + 2)), some (di t), some (di kind), r, u, none, none]) (i := 9) rfl (by omega) (fun d S P => by simp) [di 0, di 1, di 2] hg3) ?_
      rintro _ _ ⟨vs, g4, m4, hvs, hvl, hg4, rfl, rfl⟩
      obtain ⟨x, y, w, rfl⟩ := three hvs
      have hx := hvl x (by simp)
      have hy := hvl y (by simp)
      have hw := hvl w (by simp)
      have ll : (dRows l).length ≤ 1000000 := by simp; omega
      simp
      rw [evB_one]
      have snoc : ∀ (rr : Row) (σ : Rx.Env) (S' : List O) (g' : List Int) (m' : Int), rr.Ok f ∧ rr.dep ≤ deep + 1 ∧ rr.wid ∧ rr.sz ≤ rB (deep + 1) → g'.length ≤ 40 → S' = wellS g' m' (S ++ [.lst (dRows l ++ [dRow rr])]) → (∃ p q r t, σ = [some (.ref 1), some (dF f), some (di most), some (di (deep + 1)), some (.ref (S.length + 2)), p, q, r, t, none, none]) → rwI f most (deep + 1) S (a ++ [t]) σ S' := by
        intro rr σ S' g' m' h hg' e hσ
        exact ⟨l ++ [rr], g', m', hl.snoc (by omega) h.1 h.2.1 h.2.2.1 h.2.2.2, by simp; omega, hg', by rw [e]; simp, hσ⟩
      have simp_row : ∀ rr : Row, (rr = .fence ∨ (rr = .op 0 x y w ∧ f.tabs ≠ [])) → rr.Ok f ∧ rr.dep ≤ deep + 1 ∧ rr.wid ∧ rr.sz ≤ rB (deep + 1) := by
        have := rB_pos (deep + 1)
        rintro rr (rfl | ⟨rfl, hn⟩)
        · exact ⟨trivial, Nat.zero_le _, trivial, this⟩
        · exact ⟨⟨List.length_pos_iff.mpr hn, hx, hy, hw⟩, Nat.zero_le _, trivial, this⟩
      by_cases k2 : kind < 2
      · have k2' : ((kind : Int) < 2) := by omega
        have d0 : (0 : Int) < (deep : Int) + 1 := by omega
        simp [k2', d0]
        refine evB_cons ?_
        simp [rng2, turnC_put]
        rw [show D.int 4 = di 4 from rfl]
        refine wp_mono (ih k (by omega) 4 (by omega) g4 m4 _ hg4) ?_
        rintro _ _ ⟨u1, g5, m5, hu1, hg5, rfl, rfl⟩
        simp [turnC_put]
        refine wp_mono (ih k (by omega) 4 (by omega) g5 m5 _ hg5) ?_
        rintro _ _ ⟨u2, g6, m6, hu2, hg6, rfl, rfl⟩
        simp
        rw [evB_one]
        simp [isL_w, app_w ll]
        exact snoc (.fork x u1 u2) _ _ _ _ (Drawn.fork hx hu1 hu2) hg6 rfl ⟨_, _, _, _, rfl⟩
      · have k2' : ¬ ((kind : Int) < 2) := by omega
        have d0 : (0 : Int) < (deep : Int) + 1 := by omega
        simp [k2', d0]
        rw [evB_one]
        by_cases k3 : kind = 2
        · have k3' : ((kind : Int) = 2) := by omega
          simp [k3', d0, evB_one, isL_w]
          rw [show D.int 3 = di 3 from rfl]
          refine wp_mono (v_drawn k (by omega) hg4 (n := 3) (by omega) (by omega)) ?_
          rintro _ _ ⟨times, g5, m5, ht, hg5, rfl, rfl⟩
          simp
          try rw [show D.int 2 = di 2 from rfl]
          refine wp_mono (ih k (by omega) 2 (by omega) g5 m5 _ hg5) ?_
          rintro _ _ ⟨u1, g6, m6, hu1, hg6, rfl, rfl⟩
          simp
          rw [app_w ll, ofO_some]
          exact snoc (.loop times u1) _ _ _ _ (Drawn.loop (by omega) hu1) hg6 rfl ⟨_, _, _, _, rfl⟩
        · have k3' : ¬ ((kind : Int) = 2) := by omega
          simp [k3']
          refine rows_tail k hf hc rfl ll _ fun rr hrr => snoc rr _ _ _ _ (simp_row rr hrr) hg4 rfl ⟨_, _, _, _, rfl⟩
    · rintro σ _ ⟨l, g2, m2, hl, hla, hg2, rfl, p, q, r, u, rfl⟩
      simp
      rw [evB_one]
      simp [tuple_ref get_w]
      rw [fin_rows (f := f) (by rw [well_len]), wp_ok]
      exact ⟨l, g2, m2, hl, hg2, rfl, rfl⟩
end
end K66

set_option Elab.async false
set_option autoImplicit false
set_option linter.all false
set_option maxRecDepth 100000
namespace K66
open PySem L2 Rx Pl
theorem v_flat {f : Fr} : ∀ (n : Nat) (l : List Row) (k : Nat) (S : List O), rdep l ≤ n → n + 1 ≤ k → rsz l ≤ 100000 → rowsOk f l → evF cs T k 13 [.tup (dRows l)] S = .ok (.lst (dRows (flat l))) S := by
  intro n
  induction n with
  | zero =>
    intro l k S hd hk hs ho
    obtain ⟨k, rfl, hj⟩ := fuel (n := 0) hk
    (refine call_eq (f := f13) rfl rfl ?_; simp only [f13, b13, List.map_cons, List.map_nil, List.replicate_succ, List.replicate_zero, List.cons_append, List.nil_append, Nat.reduceSub])
    refine evB_cons ?_
    simp
    refine evB_cons ?_
    simp only [eS_for, eI_src, eE_var, List.getElem?_cons_succ, List.getElem?_cons_zero, getV_some, srcOf_tup, ofO_some]
    rw [dRows_map]
    refine forL_pre l (fun a σ S' => S' = S ++ [.lst (dRows (flat a))] ∧ ∃ x, σ = [some (.tup (l.map dRow)), some (.ref S.length), x]) (fun _ _ _ _ => rfl) ?_ ?_ ⟨rfl, _, rfl⟩
    · rintro a r b σ _ e ⟨rfl, x, rfl⟩
      have m : r ∈ l := by rw [e]; simp
      rw [forT_put (σ' := [some (.tup (l.map dRow)), some (.ref S.length), some (dRow r)]) _ _ _ _ (by simp)]
      refine evB_cons ?_
      have dd := rdep_le.mp hd r m
      have ll : (dRows (flat a)).length ≤ 1000000 := by
        have := len_rsz (flat a)
        have := flat_sz a
        rw [e, rsz_append] at hs
        simp; omega
      cases r with
      | fork q u v => simp [Row.dep] at dd
      | loop q u => simp [Row.dep] at dd
      | _ => simp [dRow, evB_one, app0 ll, flat_snoc, flat1]
    · rintro σ _ ⟨rfl, x, rfl⟩
      simp
      refine evB_cons ?_
      simp [fin_new]
  | succ n ih =>
    intro l k S hd hk hs ho
    obtain ⟨k, rfl, hj⟩ := fuel hk
    (refine call_eq (f := f13) rfl rfl ?_; simp only [f13, b13, List.map_cons, List.map_nil, List.replicate_succ, List.replicate_zero, List.cons_append, List.nil_append, Nat.reduceSub])
    refine evB_cons ?_
    simp
    refine evB_cons ?_
    simp only [eS_for, eI_src, eE_var, List.getElem?_cons_succ, List.getElem?_cons_zero, getV_some, srcOf_tup, ofO_some]
    rw [dRows_map]
    refine forL_pre l (fun a σ S' => S' = S ++ [.lst (dRows (flat a))] ∧ ∃ x, σ = [some (.tup (l.map dRow)), some (.ref S.length), x]) (fun _ _ _ _ => rfl) ?_ ?_ ⟨rfl, _, rfl⟩
    · rintro a r b σ _ e ⟨rfl, x, rfl⟩
      have m : r ∈ l := by rw [e]; simp
      rw [forT_put (σ' := [some (.tup (l.map dRow)), some (.ref S.length), some (dRow r)]) _ _ _ _ (by simp)]
      refine evB_cons ?_
      have dd := rdep_le.mp hd r m
      rw [e, rsz_append, rsz] at hs
      have oo := rowsOk_iff.mp ho r m
      have l1 := len_rsz (flat a)
      have l2 := flat_sz a
      have ll : (dRows (flat a)).length ≤ 1000000 := by simp; omega
      cases r with
      | fork q u v =>
        simp only [Row.dep, Row.sz] at dd hs
        have h1 := len_rsz (flat u)
        have h2 := len_rsz (flat v)
        have h3 := flat_sz u
        have h4 := flat_sz v
        have b2 : ∀ S : List O, binD S .add (.tup [.str "fork", di q]) (.tup [.tup (dRows (flat u)), .tup (dRows (flat v))]) = some (.tup [.str "fork", di q, .tup (dRows (flat u)), .tup (dRows (flat v))]) := fun S => by rw [bin_tup _ (by simp)]; rfl
        simp [dRow, evB_one, app0 ll, flat_snoc, flat1, b2, ih u k _ (by omega) (by omega) (by omega) oo.2.1, ih v k _ (by omega) (by omega) (by omega) oo.2.2]
      | loop q u =>
        simp only [Row.dep, Row.sz, Nat.succ_mul] at dd hs
        have h1 := len_rsz (flat u)
        have h3 := flat_sz u
        have h4 := Nat.mul_le_mul_left q h3
        have h5 := Nat.mul_le_mul_left q h1
        have h6 : (dRows (flat u)).length * q ≤ 1000000 := by simp; rw [Nat.mul_comm]; omega
        have h9 : (List.map List.length (List.replicate q (dRows (flat u)))).sum = q * (flat u).length := by simp
        simp [dRow, evB_one, flat_snoc, flat1, ih u k _ (by omega) (by omega) (by omega) oo.2, bin_mul_lst _ h6 (Nat.le_trans oo.1 (by omega))]
        rw [ext0 (by simp [List.length_flatten, h9] ; omega)]
        simp [dRows_rep, flat_snoc, flat1]
      | _ => simp [dRow, evB_one, app0 ll, flat_snoc, flat1]
    · rintro σ _ ⟨rfl, x, rfl⟩
      simp
      refine evB_cons ?_
      simp [fin_new]
section
variable {f : Fr}
theorem v_astray (k : Nat) (hk : 1 ≤ k) {rows d : D} {n : Nat} {S : List O} (hr : ∀ S, biD S .len [rows] = some (di n)) : evF cs T k 29 [dF f, rows, d, .int 0] S = .ok (.tup []) S := by
  obtain ⟨k, rfl, hj⟩ := fuel hk
  (refine call_eq (f := f29) rfl rfl ?_; simp only [f29, b29, List.map_cons, List.map_nil, List.replicate_succ, List.replicate_zero, List.cons_append, List.nil_append, Nat.reduceSub])
  refine evB_cons ?_
  simp
  refine evB_cons ?_
  simp only [eS_whl]
  refine whlL_wp (fun m σ S' => σ = [some (dF f), some rows, some d, some (.int 0), some (.ref S.length), none] ∧ S' = S ++ [.lst []]) ?_ _ 0 _ _ (by unfold WF; omega) ⟨rfl, rfl⟩
  rintro m σ _ ⟨rfl, rfl⟩
  rw [whlC_wp]
  have e : ∀ S : List O, biD S .min2 [.int 0, di n] = some (.int 0) := fun S => by
    have : ¬ ((n : Int) < 0) := by omega
    simp [biD, this]
  simp [len_ref get0, hr, e]
  rw [evB_one]
  simp [tuple_ref get0]
  rw [fin_app (by simp) (by simp)]
  simp
theorem v_done (k : Nat) (hk : 1 ≤ k) (hf : f.Ok) (hc : f.cells = 0) {d : Rw} (hd : f.Dat d) {r : Row} (hr : r.Ok f) (hn : r.isFork = false) (hl : r.noL) (h2 : f.size = 2) (S : List O) : evF cs T k 30 [dF f, dRow r, dR d] S = .ok (.tup [ev f r d, dR (run1 f r d)]) S := by
  obtain ⟨k, rfl, hj⟩ := fuel hk
  (refine call_eq (f := f30) rfl rfl ?_; simp only [f30, b30, List.map_cons, List.map_nil, List.replicate_succ, List.replicate_zero, List.cons_append, List.nil_append, Nat.reduceSub])
  refine evB_cons ?_
  simp
  refine evB_cons ?_
  cases r with
  | op t a b c =>
    simp only [dRow, Row.Ok] at hr ⊢
    simp
    refine evB_cons ?_
    have gb : idxD (S ++ [.lst (d.map di)]) (.ref S.length) (di b) = some (di (gt d b)) := by
      rw [idx_ref get0, Rx.atI_nat, List.getElem?_map, reg_get hd hr.2.2.1]; rfl
    have gc : idxD (S ++ [.lst (d.map di)]) (.ref S.length) (di c) = some (di (gt d c)) := by
      rw [idx_ref get0, Rx.atI_nat, List.getElem?_map, reg_get hd hr.2.2.2]; rfl
    simp [gb, gc]
    refine evB_cons ?_
    have h1 := getD_lt hd (by omega) b
    have h2' := getD_lt hd (by omega) c
    obtain ⟨w, h3, h4⟩ := ask_get hf hr.1 h1 h2'
    have e : (2 : Int) * (gt d b : Int) + (gt d c : Int) = ((gt d b * f.size + gt d c : Nat) : Int) := by rw [h2]; simp [Int.mul_comm]
    have ha : a < (d.map di).length := by rw [List.length_map, hd.1]; omega
    have sd : setD (S ++ [.lst (d.map di)]) (.ref S.length) (di a) (di (f.ask t (gt d b) (gt d c))) = some (S ++ [.lst ((d.set a (f.ask t (gt d b) (gt d c))).map di)]) := by
      have e2 : ixN (d.map di).length (a : Int) = some a := by
        unfold ixN
        rw [if_pos (by omega), if_pos (by omega)]; simp
      simp only [setD, get0, e2, Option.map_some, set0, List.map_set]
    have it : ∀ S : List O, idxD S (.tup (f.tabs.map dR)) (di t) = some (dR w) := fun S => by
      rw [idx_tup, Rx.atI_nat, List.getElem?_map, h3]; rfl
    have iw : ∀ S : List O, idxD S (dR w) (.int (2 * (gt d b : Int) + (gt d c : Int))) = some (di (f.ask t (gt d b) (gt d c))) := fun S => by
      rw [e, idx_dR, h4]; rfl
    have m2 : mulOk 2 (gt d b : Int) = true := mulOk_le (n := 2) _ (by omega)
    simp [it, bin_mul _ m2, iw, sd]
    rw [evB_one]
    simp [tuple_ref get0]
    rw [← List.map_set, ← dR_def, fin_app (by simp) (by simp)]
    simp [ev, run1]
  | load a b => exact absurd hr.2.2 (by omega)
  | store a b => exact absurd hr.2.2 (by omega)
  | fence =>
    simp only [dRow]
    simp
    refine evB_cons ?_
    simp
    refine evB_cons ?_
    simp
    refine evB_cons ?_
    simp [ev, run1]
    rw [fin_app (by simp) (by simp)]
    simp
  | fork => cases hn
  | loop => exact False.elim hl
def vrI (f : Fr) (l : List Row) (d : Rw) (A : D) (path : List D) (S : List O) (a : List (Row × Nat)) (σ : Rx.Env) (S' : List O) : Prop :=
  ∃ (F : List D) (X : List O) (d' : Rw), S' = S ++ .lst F :: X ∧ (∃ p q r t u, σ = [some (dF f), some A, some (dR d'), some (.int 0), some (.tup path), some (.ref S.length), p, q, r, t, u]) ∧ f.Dat d' ∧ F.length ≤ rsz (a.map (·.1)) ∧ runs f (a.map (·.1)) d = d'
theorem v_run (hf : f.Ok) (hc : f.cells = 0) (h2 : f.size = 2) : ∀ (n : Nat) (l : List Row) (d : Rw) (path : List D) (A : D) (S : List O) (k : Nat), noLs l → rowsOk f l → rdep l ≤ n → rsz l ≤ 100000 → f.Dat d → path.length + 2 * n ≤ 1000 → (∀ S, srcOf S A = some ⟨[], dRows l⟩) → n + 2 ≤ k →
    wp (evF cs T k 12 [dF f, A, dR d, .int 0, .tup path] S) (RunP f l d S) := by
  intro n
  induction n using Nat.strongRecOn with
  | _ n ih =>
    intro l d path A S k hn ho hdp hs hd hp hA hk
    obtain ⟨k, rfl, hj⟩ := fuel (n := n + 1) hk
    (refine call_wp (f := f12) rfl rfl ?_; simp only [f12, b12, List.map_cons, List.map_nil, List.replicate_succ, List.replicate_zero, List.cons_append, List.nil_append, Nat.reduceSub])
    refine evB_cons ?_
    simp
    refine evB_cons ?_
    simp only [eS_for, eI_enum, eE_var, List.getElem?_cons_succ, List.getElem?_cons_zero, getV_some, hA, ofO_some]
    rw [dRows_map, enumL_map']
    refine forL_pre l.zipIdx (vrI f l d A path S) (fun _ _ _ _ => rfl) ?_ ?_ ⟨[], [], d, rfl, ⟨_, _, _, _, _, rfl⟩, hd, Nat.zero_le _, rfl⟩
    · rintro a x b σ _ ea ⟨F, X, d', rfl, ⟨p, q, r, t, u, rfl⟩, hd', hF, hr⟩
      obtain ⟨x2, x1⟩ := zipIdx_at ea
      have m : x.1 ∈ l := List.mem_of_getElem? x1
      have oo := rowsOk_iff.mp ho _ m
      have nn := noLs_iff.mp hn _ m
      have dd := rdep_le.mp hdp _ m
      have al : l = a.map (·.1) ++ x.1 :: b.map (·.1) := by
        have := congrArg (List.map (·.1)) ea
        rw [List.map_append, List.map_cons] at this
        rw [← this]; simp
      have sz : rsz (a.map (·.1)) + (x.1.sz + rsz (b.map (·.1))) = rsz l := by
        conv => rhs; rw [al]
        rw [rsz_append, rsz]
      have hF2 : F.length ≤ 1000000 := by omega
      have ra : ∀ d2, run1 f x.1 d' = d2 → runs f ((a ++ [x]).map (·.1)) d = d2 := fun d2 h => by
        rw [List.map_append, runs_append, hr]; exact h
      rw [forT_put (σ' := [some (dF f), some A, some (dR d'), some (.int 0), some (.tup path), some (.ref S.length), some (di x.2), some (dRow x.1), r, t, u]) _ _ _ _ (by simp), evB_one]
      have plain : x.1.isFork = false → ∀ Q : Fl → List O → Prop, (∀ σ' S'', vrI f l d A path S (a ++ [x]) σ' S'' → Q (.nx σ') S'') → wp (evB (evF cs T k) cs [.asg (.tup [.nm 10, .nm 2]) (.call 30 [.var 0, .var 7, .var 2]), .append (.var 5) (.tup [.var 10, .tup [], .lit .non])] [some (dF f), some A, some (dR d'), some (.int 0), some (.tup path), some (.ref S.length), some (di x.2), some (dRow x.1), r, t, u] (S ++ .lst F :: X)) Q := by
        intro nf Q hQ
        refine evB_cons ?_
        simp [v_done k (by omega) hf hc hd' oo nf nn h2]
        rw [evB_one]
        simp [app0 hF2]
        have s1 := row_sz x.1
        exact hQ _ _ ⟨_, X, run1 f x.1 d', rfl, ⟨_, _, _, _, _, rfl⟩, run1_ok hf _ _ hd', by rw [List.map_append, rsz_append]; simp [rsz]; omega, ra _ rfl⟩
      have side : ∀ (p0 : Nat) (c w : List Row) (sd : Nat), x.1 = .fork p0 c w → (sd = 0 ∨ sd = 1) → (if gt d' p0 = 0 then 0 else 1) = sd → wp (evB (evF cs T k) cs [.append (.var 5) (.tup [.tup [.lit (.str "fork"), .var 8], .call 29 [.var 0, .idx (.var 7) (.bin .sub (.lit (.int 3)) (.var 8)), .var 2, .var 3], .bin .add (.var 4) (.tup [.var 6, .bin .sub (.lit (.int 1)) (.var 8)])]),
          .asg (.tup [.nm 9, .nm 2]) (.call 12 [.var 0, .idx (.var 7) (.bin .add (.lit (.int 2)) (.var 8)), .var 2, .var 3, .bin .add (.var 4) (.tup [.var 6, .var 8])]), .extend (.var 5) (.var 9)]
          [some (dF f), some A, some (dR d'), some (.int 0), some (.tup path), some (.ref S.length), some (di x.2), some (dRow x.1), some (di sd), t, u] (S ++ .lst F :: X)) (fun f_1 S' => match f_1 with
          | .nx σ' => vrI f l d A path S (a ++ [x]) σ' S'
          | _ => False) := by
        intro p0 c w sd hx hsd hv
        rw [hx] at oo nn dd sz ⊢
        rw [dep_fork] at dd
        rw [sz_fork] at sz
        have lc := len_rsz c
        have lw := len_rsz w
        have run : ∀ (q : List Row) (S2 : List O) (k2 : List D), (q = c ∨ q = w) → k2.length = path.length + 2 → wp (evF cs T k 12 [dF f, .tup (dRows q), dR d', .int 0, .tup k2] S2) (RunP f q d' S2) := fun q S2 k2 hq hk2 => by
          refine ih (n - 1) (by omega) q d' k2 _ S2 k ?_ ?_ ?_ ?_ hd' (by omega) (fun S => rfl) (by omega)
          · rcases hq with h | h <;> rw [h]
            · exact nn.1
            · exact nn.2
          · rcases hq with h | h <;> rw [h]
            · exact oo.2.1
            · exact oo.2.2
          · rcases hq with h | h <;> rw [h] <;> omega
          · rcases hq with h | h <;> rw [h] <;> omega
        have bp : ∀ (S : List O) (y z : D), binD S .add (.tup path) (.tup [y, z]) = some (.tup (path ++ [y, z])) := fun S y z => bin_tup _ (by simp; omega)
        have fin : ∀ (q : List Row) (more : List D) (i : Nat) (X2 : List O) (L : List D) (sd' : Option D) (E : List D), (q = c ∨ q = w) → E.length ≤ 1 → run1 f (.fork p0 c w) d' = runs f q d' → (S ++ .lst (F ++ E) :: X ++ X2)[i]? = some (.lst L) → L.length ≤ rsz q → wp (evB (evF cs T k) cs [.extend (.var 5) (.var 9)] [some (dF f), some A, some (dR (runs f q d')), some (.int 0), some (.tup path), some (.ref S.length), some (di x.2), some (dRow (.fork p0 c w)), sd', some (.ref i), u] (S ++ .lst (F ++ E) :: X ++ X2)) (fun f_1 S' => match f_1 with
            | .nx σ' => vrI f l d A path S (a ++ [x]) σ' S'
            | _ => False) := by
          intro q more i X2 L sd' E hq hE hrun hg hL
          have fe : (F ++ E).length ≤ F.length + 1 := by simp; omega
          have Lq : L.length ≤ rsz c + rsz w := by rcases hq with h | h <;> rw [h] at hL <;> omega
          rw [evB_one]
          rw [List.append_assoc, List.cons_append] at hg ⊢
          simp [-List.append_assoc]
          rw [extD_of get0 (m := L) (by simp only [lstOf, hg]) (by omega), set0, ofO_some]
          refine ⟨F ++ E ++ L, X ++ X2, runs f q d', rfl, ⟨_, _, _, _, _, rfl⟩, runs_ok hf _ _ hd', ?_, ra _ (by rw [hx]; exact hrun)⟩
          rw [List.map_append, rsz_append, List.map_cons, List.map_nil, hx]
          simp only [rsz, sz_fork, List.length_append] at fe ⊢
          omega
        rcases hsd with h | h
        · subst h
          have g0 : gt d' p0 = 0 := by
            by_cases z : gt d' p0 = 0
            · exact z
            · rw [if_neg z] at hv; cases hv
          refine evB_cons ?_
          simp [dRow, v_astray k (by omega) (rows := .tup (dRows w)) (n := w.length) (fun S => by simp), bp, app0 hF2]
          refine evB_cons ?_
          simp [bp]
          refine wp_mono (run c _ _ (.inl rfl) (by simp)) ?_
          rintro _ _ ⟨i, X2, L, rfl, rfl, hg, hL⟩
          simp only [eT_tup, eTs_cons, eTs_nil, eT_nm]
          exact fin c [] i X2 L _ _ (.inl rfl) (by simp) (by rw [run1, if_pos g0]) hg hL
        · subst h
          have g0 : ¬ gt d' p0 = 0 := by
            intro z
            rw [if_pos z] at hv; cases hv
          refine evB_cons ?_
          simp [dRow, v_astray k (by omega) (rows := .tup (dRows c)) (n := c.length) (fun S => by simp), bp, app0 hF2]
          refine evB_cons ?_
          simp [bp]
          refine wp_mono (run w _ _ (.inr rfl) (by simp)) ?_
          rintro _ _ ⟨i, X2, L, rfl, rfl, hg, hL⟩
          simp only [eT_tup, eTs_cons, eTs_nil, eT_nm]
          exact fin w [] i X2 L _ _ (.inr rfl) (by simp) (by rw [run1, if_neg g0]) hg hL
      cases hrow : x.1 with
      | fork p0 c w =>
        rw [hrow] at oo
        have hp0 : p0 < f.regs := oo.1
        simp [dRow]
        refine evB_cons ?_
        simp [reg_get hd' hp0]
        by_cases g0 : gt d' p0 = 0
        · simp [g0]
          have h := side p0 c w 0 hrow (.inl rfl) (by simp [g0])
          rw [hrow] at h
          refine wp_mono h fun fl S' h => ?_
          cases fl with
          | nx σ' => exact h
          | _ => exact False.elim h
        · simp [g0]
          have h := side p0 c w 1 hrow (.inr rfl) (by simp [g0])
          rw [hrow] at h
          refine wp_mono h fun fl S' h => ?_
          cases fl with
          | nx σ' => exact h
          | _ => exact False.elim h
      | loop => rw [hrow] at nn; exact False.elim nn
      | _ =>
        rw [hrow] at plain
        simp [dRow]
        exact plain rfl _ fun σ' S'' h => h
    · rintro σ _ ⟨F, X, d', rfl, ⟨p, q, r, t, u, rfl⟩, hd', hF, hr⟩
      have e1 : l.zipIdx.map (·.1) = l := by simp
      rw [e1] at hF hr
      simp
      rw [evB_one]
      simp
      rw [fin_open (by simp) (by simp)]
      rw [wp_ok]
      exact ⟨S.length, _, F, by rw [hr], rfl, get0, hF⟩
end
end K66

set_option Elab.async false
set_option autoImplicit false
set_option linter.all false
set_option maxRecDepth 100000
namespace K66
open PySem L2 Rx Pl
theorem comp_tabs (k : Nat) (hk : 1 ≤ k) {v : Nat} {q : List D} {σ5 : List (Option D)} {g : List Int} {m : Int} {S : List O} (hg : g.length ≤ 40) (hσ : σ5.length = 12) (l : List D) (hl : l.length = v) :
    wp (compL ⟨[], q⟩ (turnC (evF cs T k) cs (some (.ref 1) :: σ5) [5] (.bi .tuple [.val (.comp [11] (.call 8 [.var 0, .lit (.int 2)]) (.nm 11) (.rng [.lit (.int 4)]) [])]) (.nm 5) []) l (wellS g m S)) (TabsP v S) := by
  refine compL_wp0 (fun acc rest S' => ∃ (ts : List Rw) (g' : List Int) (m' : Int), ts.length + rest.length = v ∧ (∀ t ∈ ts, RwOk 2 4 t) ∧ g'.length ≤ 40 ∧ acc = ts.map dR ∧ S' = wellS g' m' S) ⟨[], g, m, by simpa using hl, by simp, hg, rfl, rfl⟩ (fun _ _ _ _ => rfl) ?_ ?_
  · rintro acc d rest S' ⟨ts, g', m', h1, h2, hg', rfl, rfl⟩
    rw [turnC_put (σ' := ((some (.ref 1) :: σ5).set 5 none).set 5 (some d)) _ _ _ _ (by simp)]
    simp only [eIfs_nil, ifB_t, eE_bi, eEs_cons, eEs_nil, eE_val, eC_comp, eI_rng, eE_lit, rng4, ofO_some]
    refine wp_mono (comp_draws k hk (n := 2) (by omega) (by omega) (i := 11) (by simp) (by omega) (fun d S P => eE_lit _ _ _ _ P _) [di 0, di 1, di 2, di 3] hg') ?_
    rintro _ _ ⟨vs, g2, m2, hv, hlt, hg2, rfl, rfl⟩
    have z : szOk (vs.map di).length = true := szOk_of (by rw [List.length_map, hv]; simp)
    rw [z, ifB_t]
    simp only [eEs_nil, tuple_lst, ofO_some]
    refine ⟨ts ++ [vs], g2, m2, by simp at h1 ⊢; omega, fun t ht => ?_, hg2, by simp [dR_def], rfl⟩
    rcases List.mem_append.mp ht with h | h
    · exact h2 t h
    · simp at h; subst h; exact ⟨hv, hlt⟩
  · rintro acc S' ⟨ts, g', m', h1, h2, hg', rfl, rfl⟩
    exact ⟨ts, g', m', by simpa using h1, h2, hg', rfl, rfl⟩
theorem comp_lot (k : Nat) (hk : 1 ≤ k) {q : List D} {σ : Rx.Env} (h0 : σ[0]? = some (some (.ref 1))) (h9 : 9 < σ.length) {g : List Int} {m : Int} {S : List O} (hg : g.length ≤ 40) :
    wp (compL ⟨[], q⟩ (turnC (evF cs T k) cs σ [9] (.var 9) (.nm 9) [.cmp .eq (.call 8 [.var 0, .lit (.int 3)]) (.lit (.int 0))]) ((List.range 10).map di) (wellS g m S)) (LotP S) := by
  refine compL_wp0 (fun acc rest S' => ∃ (as : List Nat) (j : Nat) (g' : List Int) (m' : Int), rest = (List.range' j (10 - j)).map di ∧ j ≤ 10 ∧ as.Pairwise (· < ·) ∧ (∀ x ∈ as, x < j) ∧ g'.length ≤ 40 ∧ acc = as.map di ∧ S' = wellS g' m' S) ⟨[], 0, g, m, by rw [List.range_eq_range'], by omega, .nil, by simp, hg, rfl, rfl⟩ (fun _ _ _ _ => rfl) ?_ ?_
  · rintro acc d rest S' ⟨as, j, g', m', h1, h2, h3, h4, hg', rfl, rfl⟩
    have jl : j < 10 := by
      by_cases z : j < 10
      · exact z
      · rw [show 10 - j = 0 by omega] at h1; cases h1
    rw [show 10 - j = (10 - (j + 1)) + 1 by omega, List.range'_succ, List.map_cons] at h1
    injection h1 with h1 h1'
    subst h1
    rw [turnC_put (σ' := (σ.set 9 none).set 9 (some (di j))) _ _ _ _ (by simp)]
    have e0 : ((σ.set 9 none).set 9 (some (di j)))[0]? = some (some (.ref 1)) := by simp [h0]
    have e9 : ((σ.set 9 none).set 9 (some (di j)))[9]? = some (some (di j)) := by simp [h9]
    simp only [eIfs_one, eE_cmp, eE_call, eEs_cons, eEs_nil, eE_var, e0, getV_some, eE_lit]
    refine wp_mono (v_drawn k hk hg' (n := 3) (by omega) (by omega)) ?_
    rintro _ _ ⟨v, g2, m2, hv, hg2, rfl, rfl⟩
    simp only [eE_lit, eEs_nil, cmp_eq, eqD_int, ofO_some, truD_bl]
    by_cases hz : (v : Int) = 0
    · simp only [hz, decide_true, ifB_t, eE_var, e9, getV_some]
      refine ⟨as ++ [j], j + 1, g2, m2, h1', by omega, List.pairwise_append.mpr ⟨h3, by simp, fun a ha b hb => ?_⟩, fun x hx => ?_, hg2, by simp, rfl⟩
      · simp at hb; subst hb; exact h4 a ha
      · rcases List.mem_append.mp hx with h | h
        · have := h4 x h; omega
        · simp at h; omega
    · simp only [hz, decide_false, ifB_f]
      exact ⟨as, j + 1, g2, m2, h1', by omega, h3, fun x hx => by have := h4 x hx; omega, hg2, by simp, rfl⟩
  · rintro acc S' ⟨as, j, g', m', h1, h2, h3, h4, hg', rfl, rfl⟩
    exact ⟨as, g', m', ⟨h3, fun x hx => by have := h4 x hx; omega⟩, hg', rfl, rfl⟩
theorem v_task (k : Nat) (hk : 10 ≤ k) {g : List Int} {m : Int} {S : List O} (hg : g.length ≤ 40) : wp (evF cs T k 2 [.ref 1] (wellS g m S)) (TaskP S) := by
  obtain ⟨k, rfl, hj⟩ := fuel hk
  (refine call_wp (f := f2) rfl rfl ?_; simp only [f2, b2, List.map_cons, List.map_nil, List.replicate_succ, List.replicate_zero, List.cons_append, List.nil_append, Nat.reduceSub])
  refine evB_cons ?_
  simp
  refine wp_mono (v_drawnZ k (by omega) hg 3 rfl (by omega) (by omega)) ?_
  rintro _ _ ⟨nt, g1, m1, hnt, hg1, rfl, rfl⟩
  have z1 : rngD [di nt] = some ((List.range nt).map di) := rngD_nat (by omega)
  simp [z1]
  refine wp_mono (comp_tabs k (by omega) (v := nt) hg1 rfl _ (by simp)) ?_
  rintro _ _ ⟨ts, g2, m2, htl, hto, hg2, rfl, rfl⟩
  have z2 : szOk nt = true := szOk_of (by omega)
  simp [htl, z2]
  refine evB_cons ?_
  simp
  refine wp_mono (v_drawnZ k (by omega) hg2 3 rfl (by omega) (by omega)) ?_
  rintro _ _ ⟨nr, g3, m3, hnr, hg3, rfl, rfl⟩
  simp
  refine wp_mono (v_drawnZ k (by omega) hg3 3 rfl (by omega) (by omega)) ?_
  rintro _ _ ⟨dp, g4, m4, hdp, hg4, rfl, rfl⟩
  obtain ⟨f, hf⟩ : ∃ f : Fr, f = ⟨2, 1 + nr, 0, ts, dp⟩ := ⟨_, rfl⟩
  have ef : D.tup [.int 2, .int (1 + (nr : Int)), .int 0, .tup (ts.map dR), di dp] = dF f := by rw [hf]; rfl
  have fo : f.Ok := by
    subst hf
    exact ⟨Nat.le_refl _, by show 2 ≤ 3; omega, by show 1 ≤ 1 + nr; omega, by show 1 + nr ≤ 4; omega, .inl rfl, by show ts.length ≤ 4; omega, hto, by show dp ≤ 3; omega⟩
  have fc : f.cells = 0 := by rw [hf]
  have fs : f.size = 2 := by rw [hf]
  have fr : f.regs = 1 + nr := by rw [hf]
  simp
  rw [ef]
  refine evB_cons ?_
  simp
  have z10 : rngD [.int 10] = some ((List.range 10).map di) := rngD_nat (n := 10) (by omega)
  rw [z10, ofO_some]
  refine wp_mono (comp_lot k (by omega) rfl (by simp) hg4) ?_
  rintro _ _ ⟨lot, g5, m5, hlot, hg5, rfl, rfl⟩
  have lotl := lot_len (l := lot) hlot
  have z3 : szOk (lot.map di).length = true := szOk_of (by simp; omega)
  rw [z3, ifB_t]
  simp
  rw [← dR_def]
  refine evB_cons ?_
  simp [well_app, well_len]
  refine evB_cons ?_
  simp
  refine wp_mono (v_drawnZ k (by omega) hg5 4 rfl (by omega) (by omega)) ?_
  rintro _ _ ⟨nd, g6, m6, hnd, hg6, rfl, rfl⟩
  have z4 : rngD [.int (1 + (nd : Int))] = some ((List.range (1 + nd)).map di) := by
    rw [rngD_int (by omega) (by omega)]
    congr 3
  simp only [eEs_nil, bin_add, ofO_some]
  rw [z4, ofO_some]
  refine forL_pre (List.range (1 + nd)) (dtI f S (.tup (ts.map dR)) lot) (fun _ _ _ _ => rfl) ?_ ?_ ⟨[], g6, m6, by simp, .nil, by simp, by simp, hg6, rfl, _, _, rfl⟩
  · rintro a t b σ _ ea ⟨data, g7, m7, hd1, hd2, hd3, hd4, hg7, rfl, p, q, rfl⟩
    have al : a.length < 1 + nd := by
      have := congrArg List.length ea
      simp at this; omega
    rw [forT_put (σ' := [some (.ref 1), some (.tup (ts.map dR)), some (dF f), some (dR lot), some (.ref (S.length + 2)), some (di t), none, none, q, none, none, none, none]) _ _ _ _ (by simp)]
    refine evB_cons ?_
    simp [v_data (f := f) k (by omega) f.regs (by omega) (by omega) (by omega)]
    have dl : ((srt (dat2 f.regs)).map dR).length = 2 ^ f.regs := by rw [List.length_map, length_srt, dat2_len]
    have p1 : 1 ≤ 2 ^ f.regs := Nat.one_le_two_pow
    have p2 : 2 ^ f.regs ≤ 2 ^ 4 := Nat.pow_le_pow_right (by omega) fo.r4
    refine wp_mono (v_one_of k (by omega) hg7 (l := (srt (dat2 f.regs)).map dR) (by omega) (by omega) (fun d hd => ?_)) ?_
    · obtain ⟨r, _, rfl⟩ := List.mem_map.mp hd
      exact ⟨by simp [dR], fun n => clean_dR n r⟩
    rintro d _ ⟨v, g8, m8, hv, hg8, rfl⟩
    rw [List.getElem?_map] at hv
    obtain ⟨r, hr, rfl⟩ := Option.map_eq_some_iff.mp hv
    have ro : f.Dat r := by
      have := dat2_ok f.regs r (mem_srt.mp (List.mem_of_getElem? hr))
      unfold Fr.Dat
      rw [fs, fc]; exact this
    simp
    rw [evB_one]
    simp [hasD_dR_ref _ get_w]
    by_cases mr : r ∈ data
    · simp [mr]
      refine ⟨data, g8, m8, hd1, hd2, by simp; omega, fun _ => ?_, hg8, rfl, _, _, rfl⟩
      exact List.length_pos_of_mem mr
    · simp [mr, evB_one, isL_w]
      rw [app_w (by simp; omega), ofO_some]
      refine ⟨data ++ [r], g8, m8, fun x hx => ?_, List.nodup_append.mpr ⟨hd2, by simp, fun a ha b hb z => ?_⟩, by simp; omega, fun _ => by simp, hg8, by simp, _, _, rfl⟩
      · rcases List.mem_append.mp hx with h | h
        · exact hd1 x h
        · simp at h; subst h; exact ro
      · simp at hb; subst hb; subst z; exact mr ha
  · rintro σ _ ⟨data, g7, m7, hd1, hd2, hd3, hd4, hg7, rfl, p, q, rfl⟩
    simp at hd3 hd4
    simp
    refine evB_cons ?_
    simp
    rw [show D.int 3 = di 3 from rfl, show D.int 2 = di 2 from rfl]
    refine wp_mono (v_rows fo fc 2 k (by omega) 3 (by omega) g7 m7 _ hg7) ?_
    rintro _ _ ⟨l, g8, m8, dr, hg8, rfl, rfl⟩
    have dsz : rsz l ≤ 1000 := by
      have h1 := dr.sz
      have h2 := Nat.mul_le_mul_right (rB 2) dr.len
      have h3 : rB 2 = 73 := rfl
      rw [h3] at h1 h2; omega
    have fok := flat_ok l dr.ok
    have fo1 : rowsOk f (flat l) := rowsOk_iff.mpr fun r hr => (fok r hr).1
    have fo2 : noLs (flat l) := noLs_iff.mpr fun r hr => (fok r hr).2
    have fsz := flat_sz l
    have fdp := flat_dep l
    have ddp := dr.dep
    simp
    refine evB_cons ?_
    simp [srcOf_ref get_w]
    refine wp_mono (P := fun r S' => ∃ X, r = data.map (fun d => dR (runs f (flat l) d)) ∧ S' = wellS g8 m8 (S ++ .lst (data.map dR) :: X)) (compL_wp0 (fun acc rest S' => ∃ (dn td : List Rw) (X : List O), data = dn ++ td ∧ rest = td.map dR ∧ acc = dn.map (fun d => dR (runs f (flat l) d)) ∧ S' = wellS g8 m8 (S ++ .lst (data.map dR) :: X)) ⟨[], data, [], rfl, rfl, rfl, rfl⟩ ?_ ?_ ?_) ?_
    · rintro acc rest S' ⟨dn, td, X, _, _, _, rfl⟩
      exact still_at get_w
    · rintro acc d rest S' ⟨dn, td, X, e1, e2, rfl, rfl⟩
      cases td with
      | nil => cases e2
      | cons x td =>
        rw [List.map_cons] at e2
        injection e2 with e2 e3
        subst e2
        rw [turnC_put (σ' := [some (.ref 1), some (.tup (ts.map dR)), some (dF f), some (dR lot), some (.ref (S.length + 2)), p, some (.tup (dRows l)), none, some (dR x), none, none, none, none]) _ _ _ _ (by simp)]
        simp [v_flat 2 l k _ ddp (by omega) (by omega) dr.ok]
        refine wp_mono (v_run fo fc fs 2 (flat l) x [] (.lst (dRows (flat l))) _ k fo2 fo1 (by omega) (by omega) (hd1 x (by rw [e1]; simp)) (by simp) (fun S => rfl) (by omega)) ?_
        rintro _ _ ⟨i, X2, L, rfl, rfl, _, _⟩
        simp
        exact ⟨dn ++ [x], td, by simp [e1], e3, by simp, X ++ X2, by rw [well_app]; simp⟩
    · rintro acc S' ⟨dn, td, X, e1, e2, rfl, rfl⟩
      cases td with
      | cons x td => cases e2
      | nil =>
        rw [List.append_nil] at e1
        subst e1
        exact ⟨X, rfl, rfl⟩
    rintro _ _ ⟨X, rfl, rfl⟩
    have z5 : szOk data.length = true := szOk_of (by omega)
    simp [z5]
    rw [evB_one]
    have z6 : rngD [di f.regs] = some ((List.range f.regs).map di) := rngD_nat (by omega)
    simp [z6]
    rw [compL_map (enc := di) (g := fun s => dR (col (data.map (runs f (flat l))) s)) rfl (List.range f.regs) fun s h => eq_of_wp (by
      have hs : s < f.regs := List.mem_range.mp h
      rw [turnC_put (σ' := [some (.ref 1), some (.tup (ts.map dR)), some (dF f), some (dR lot), some (.ref (S.length + 2)), p, some (.tup (dRows l)), some (.lst (data.map fun d => dR (runs f (flat l) d))), q, none, some (di s), none, none]) _ _ _ _ (by simp)]
      simp
      rw [show (data.map fun d => dR (runs f (flat l) d)) = (data.map (runs f (flat l))).map dR by simp]
      rw [comp_col k _ (fun d h => by
        obtain ⟨q, h', rfl⟩ := List.mem_map.mp h
        exact runs_ok fo _ _ (hd1 q h')) hs _ (by simp) _ 12 10 (by simp) (by simp) (by omega) (by simp)]
      have z4 : szOk (col (data.map (runs f (flat l))) s).length = true := szOk_of (by simp [col]; omega)
      simp [z4]
      rfl)]
    have z7 : szOk f.regs = true := szOk_of (by omega)
    simp [z7]
    rw [show (List.range f.regs).map (fun s => dR (col (data.map (runs f (flat l))) s)) = (wanted f l data).map dR by simp [wanted, begins]]
    rw [fin_well_open (by rw [well_len]) (by simp) (by simp [well_len]), wp_ok]
    exact ⟨f, lot, data, l, g8, m8, X, fo, fc, fs, hlot, hd1, hd2, by omega, by omega, dr, hg8, rfl, rfl⟩
end K66

set_option Elab.async false
set_option autoImplicit false
set_option linter.all false
set_option maxRecDepth 100000
namespace K66
open PySem L2 Rx Pl
theorem v_spoilt : ∀ (n : Nat) (v : D) (k : Nat) (g : List Int) (m : Int) (S : List O), v.ok 30 = true → v.dep ≤ n → n ≤ 30 → n + 4 ≤ k → g.length ≤ 40 →
    wp (evF cs T k 5 [.ref 1, v] (wellS g m S)) (SpP n S) := by
  intro n
  induction n using Nat.strongRecOn with
  | _ n ih =>
    intro v k g m S hv hd hn hk hg
    obtain ⟨k, rfl, hj⟩ := fuel (n := n + 3) hk
    (refine call_wp (f := f5) rfl rfl ?_; simp only [f5, b5, List.map_cons, List.map_nil, List.replicate_succ, List.replicate_zero, List.cons_append, List.nil_append, Nat.reduceSub])
    have last : ∀ (g2 : List Int) (m2 : Int), g2.length ≤ 40 → wp (evB (evF cs T k) cs [.ret (.call 9 [.var 0, .val (.disp [.lit .non, .lit (.int 0), .lit (.int 1), .lit (.int 2), .neg (.lit (.int 1)), .lit (.bl true), .lit (.str "way"), .lit (.str "lot"), .tup [], .val (.disp [.lit (.int 0)]), .tup [.lit (.int 0), .lit (.int 1)], .tup [.lit (.int 0), .lit (.int 0), .lit (.int 0)]])])] [some (.ref 1), some v, none, none] (wellS g2 m2 S)) (endP true (wellS g m S) (SpP n S)) := by
      intro g2 m2 hg2
      rw [evB_one]
      simp
      have all : ∀ d ∈ ([.non, .int 0, .int 1, .int 2, .int (-1), .bl true, .str "way", .str "lot", .tup [], .lst [.int 0], .tup [.int 0, .int 1], .tup [.int 0, .int 0, .int 0]] : List D), d.ok 31 = true ∧ d.dep ≤ 1 := by
        intro d hd
        simp at hd
        rcases hd with rfl | rfl | rfl | rfl | rfl | rfl | rfl | rfl | rfl | rfl | rfl | rfl <;> simp [D.ok, oks, D.dep, deps, strOk_ofString]
      refine wp_mono (v_one_of k (by omega) hg2 (by simp) (by simp) (fun d hd => ⟨ok_noref (all d hd).1, fun n => ok_clean n d (all d hd).1⟩)) ?_
      rintro d _ ⟨w, g3, m3, hw, hg3, rfl⟩
      have q := all d (List.mem_of_getElem? hw)
      rw [endP_ret, fin_well0 rfl (ok_noref q.1) (ok_clean _ d q.1), wp_ok]
      exact ⟨g3, m3, q.1, by omega, hg3, rfl⟩
    refine evB_cons ?_
    simp [isa_T (ok_ty _ hv)]
    cases t : isT v with
    | false =>
      simp
      exact last g m hg
    | true =>
    obtain ⟨l, rfl⟩ := isT_tup t
    have vo := ok_tup.mp hv
    have n1 : 1 ≤ n := by simp [D.dep] at hd; omega
    have vd : ∀ d ∈ l, d.dep ≤ n - 1 := dep_tup.mp (by omega)
    simp [eqD_tupnil _ vo.2 (fun d hd => by have := vd d hd; omega)]
    cases le : l.isEmpty with
    | true =>
      simp
      exact last g m hg
    | false =>
    have l1 : 1 ≤ l.length := by
      cases l with
      | nil => cases le
      | cons x l => simp
    simp
    refine wp_mono (v_drawnZ k (by omega) hg 7 rfl (by omega) (by omega)) ?_
    rintro _ _ ⟨z, g1, m1, hz, hg1, rfl, rfl⟩
    simp
    by_cases z0 : 0 < z
    case neg =>
      simp [z0]
      exact last g1 m1 hg1
    simp [z0]
    refine evB_cons ?_
    simp
    refine wp_mono (v_drawn k (by omega) hg1 l1 (by omega)) ?_
    rintro _ _ ⟨ix, g2, m2, hix, hg2, rfl, rfl⟩
    simp
    refine evB_cons ?_
    simp
    refine wp_mono (v_drawnZ k (by omega) hg2 6 rfl (by omega) (by omega)) ?_
    rintro _ _ ⟨kind, g3, m3, hkind, hg3, rfl, rfl⟩
    have lo := vo.1
    have tk : ∀ j, ∀ d ∈ l.take j, d.ok 30 = true ∧ d.dep ≤ n - 1 := fun j d hd => ⟨vo.2 d (List.mem_of_mem_take hd), vd d (List.mem_of_mem_take hd)⟩
    have dp : ∀ j, ∀ d ∈ l.drop j, d.ok 30 = true ∧ d.dep ≤ n - 1 := fun j d hd => ⟨vo.2 d (List.mem_of_mem_drop hd), vd d (List.mem_of_mem_drop hd)⟩
    have endT : ∀ (q : List D) (g' : List Int) (m' : Int), q.length ≤ 31 → (∀ d ∈ q, d.ok 31 = true ∧ d.dep ≤ n) → g'.length ≤ 40 → wp (fin true (wellS g m S).length (wellS g m S) (.tup q) (wellS g' m' S)) (SpP n S) := by
      intro q g' m' h1 h2 h3
      have o : (D.tup q).ok 31 = true := ok_tup.mpr ⟨h1, fun d hd => (h2 d hd).1⟩
      rw [fin_well0 rfl (by simp) (ok_clean _ _ o), wp_ok]
      exact ⟨g', m', o, dep_tup.mpr fun d hd => (h2 d hd).2, h3, rfl⟩
    have up : ∀ d : D, d.ok 30 = true ∧ d.dep ≤ n - 1 → d.ok 31 = true ∧ d.dep ≤ n := fun d h => ⟨ok_mono (by omega) h.1, by omega⟩
    have app2 : ∀ (a b : Nat) (d : D), d ∈ l.take a ++ l.drop b → d.ok 31 = true ∧ d.dep ≤ n := fun a b d hd => by
      rcases List.mem_append.mp hd with h | h
      · exact up d (tk a d h)
      · exact up d (dp b d h)
    simp
    refine evB_cons ?_
    by_cases c0 : kind = 0
    · have c0' : ((kind : Int) = 0) := by omega
      simp [c0', evB_one, cut_to, cut_from1]
      rw [bin_tup _ (by simp; omega), ofO_some]
      exact endT _ _ _ (by simp; omega) (app2 _ _) hg3
    · have c0' : ¬ ((kind : Int) = 0) := by omega
      simp [c0', c0]
      refine evB_cons ?_
      by_cases c1 : kind = 1
      · have c1' : ((kind : Int) = 1) := by omega
        simp [c1', evB_one, cut_to1, cut_from]
        rw [bin_tup _ (by simp; omega), ofO_some]
        exact endT _ _ _ (by simp; omega) (app2 _ _) hg3
      · have c1' : ¬ ((kind : Int) = 1) := by omega
        simp [c1', c1]
        rw [evB_one]
        have ge : l[ix]? = some l[ix] := List.getElem?_eq_getElem hix
        simp [ge, cut_to, cut_from1]
        have em := List.getElem_mem hix
        refine wp_mono (ih (n - 1) (by omega) l[ix] k g3 m3 S (vo.2 _ em) (vd _ em) (by omega) (by omega) hg3) ?_
        rintro d _ ⟨g4, m4, ho, hdd, hg4, rfl⟩
        simp
        rw [bin_tup _ (by simp; omega), ofO_some]
        simp [cut_to, cut_from1]
        rw [bin_tup _ (by simp; omega), ofO_some]
        refine endT _ _ _ (by simp; omega) (fun x hx => ?_) hg4
        rw [List.append_assoc] at hx
        rcases List.mem_append.mp hx with h | h
        · exact up x (tk _ x h)
        · rcases List.mem_append.mp h with h | h
          · simp at h; subst h; exact ⟨ho, by omega⟩
          · exact up x (dp _ x h)
end K66

set_option Elab.async false
set_option autoImplicit false
set_option linter.all false
set_option maxRecDepth 100000
namespace K66
open PySem L2 Rx Pl
/-! ### the well -/
theorem v_well (k : Nat) (hk : 1 ≤ k) (ns : List Int) (salt : Int) (hs : 0 ≤ salt ∧ salt ≤ 1000) : wp (evF cs T k 1 [.scr (ns.map .int), .int salt] []) WellP := by
  obtain ⟨k, rfl, hj⟩ := fuel hk
  (refine call_wp (f := f1) rfl rfl ?_; simp only [f1, b1, List.map_cons, List.map_nil, List.replicate_succ, List.replicate_zero, List.cons_append, List.nil_append, Nat.reduceSub])
  refine evB_cons ?_
  simp [bin_mul _ (mulOk_r (31 : Int) hs.1 (by omega))]
  refine evB_cons ?_
  have e : ∀ S : List O, sliD S (.scr (ns.map .int)) none (some 40) = some (.lst ((ns.take 40).map .int)) := fun S => by
    rw [sli_scr, show ((40 : Int)) = ((40 : Nat) : Int) from rfl, cut_to, List.map_take]
  simp only [eS_for, eI_src, eE_slice, eO_nil, eO_one, eE_lit, eE_var, List.getElem?_cons_succ, List.getElem?_cons_zero, getV_some, optI_int, ofO_some, e, srcOf_lst]
  refine forL_pre (ns.take 40) (WlI (.scr (ns.map .int)) (.int salt)) (fun _ _ _ _ => rfl) ?_ ?_ ⟨[], _, _, Nat.le_refl _, rfl, rfl⟩
  · rintro a x b σ _ ea ⟨g, m, p, hg, rfl, rfl⟩
    have al : a.length ≤ 40 := by
      have := congrArg List.length ea
      simp at this; omega
    rw [forT_put (σ' := [some (.scr (ns.map .int)), some (.int salt), some (.ref 0), some (.int m), some (.int x)]) _ _ _ _ (by simp)]
    refine evB_cons ?_
    simp [bin_mul _ (mulOk_r m (show (0 : Int) ≤ 69069 by omega) (by omega)), bin_mod]
    rw [evB_one]
    simp [pow18]
    have ap : ∀ y : Int, appD [.lst (g.map .int)] (.ref 0) (.int y) = some [.lst ((g ++ [y]).map .int)] := fun y => by
      rw [appD_of (l := g.map .int) rfl (by simp; omega)]
      simp
    by_cases c : (if x < 0 then -x else x) < 1000000000000000000
    · simp [c]
      exact ⟨g, _, _, by simp; omega, rfl, rfl⟩
    · simp [c, evB_one]
      rw [isLD_of (l := g.map .int) rfl, ifB_t]
      simp [c]
      rw [ap, ofO_some]
      exact ⟨_, _, _, by simp; omega, rfl, rfl⟩
  · rintro σ _ ⟨g, m, p, hg, rfl, rfl⟩
    simp
    rw [evB_one]
    simp
    have gl : g.length ≤ 40 := by
      have := List.length_take_le 40 ns
      omega
    simp only [fin, Bool.false_eq_true, if_false, wp_ok]
    exact ⟨rfl, g, _, gl, rfl⟩
end K66

set_option Elab.async false
set_option autoImplicit false
set_option linter.all false
set_option maxRecDepth 100000
namespace K66
open PySem L2 Rx Pl
section
variable {f : Fr}
/-- what is told: steps, or rows -/
def Told (f : Fr) (told : D) : Prop := (∃ sl el, told = .tup [.str "way", .tup sl, .tup el] ∧ Gv 2 (.tup sl) ∧ Gv 1 (.tup el) ∧ sl.length ≤ 20 ∧ el.length ≤ 4) ∨ (∃ R, told = .tup [.str "lot", R] ∧ Gv 2 R)
theorem v_others (k : Nat) (hk : 4 ≤ k) (hf : f.Ok) (hB : f.size = 2) {lot : Rw} {data : List Rw} (hdat : ∀ d ∈ data, f.Dat d) (d1 : 1 ≤ data.length) (d4 : data.length ≤ 4) {told : D} (ht : Told f told) {g : List Int} {m : Int} (hg : g.length ≤ 40) {S : List O} {i : Nat} (hS : S[i]? = some (.lst (data.map dR))) :
    wp (evF cs T k 6 [.ref 1, dF f, dR lot, .ref (i + 2), told] (wellS g m S)) (OthP S) := by
  obtain ⟨k, rfl, hj⟩ := fuel hk
  have r4 := hf.r4
  have gS : ∀ (g : List Int) (m : Int) (X : List O), (wellS g m (S ++ X))[i + 2]? = some (.lst (data.map dR)) := fun g m X => by rw [well_get]; exact get_app hS
  have gS0 : ∀ (g : List Int) (m : Int), (wellS g m S)[i + 2]? = some (.lst (data.map dR)) := fun g m => by rw [well_get]; exact hS
  have p16 : f.size ^ data.length ≤ 16 := by
    rw [hB]
    exact Nat.le_trans (Nat.pow_le_pow_right (by omega) d4) (by decide)
  have bl : (begins f data).length = f.regs := by simp [begins]
  have bo := begins_ok hf hdat
  (refine call_wp (f := f6) rfl rfl ?_; simp only [f6, b6, List.map_cons, List.map_nil, List.replicate_succ, List.replicate_zero, List.cons_append, List.nil_append, Nat.reduceSub])
  refine evB_cons ?_
  simp [len_ref (gS0 _ _)]
  refine evB_cons ?_
  have z1 : rngD [di data.length] = some ((List.range data.length).map di) := rngD_nat (by omega)
  simp [z1]
  refine wp_mono (comp_draws k (by omega) (n := 2) (by omega) (by omega) (i := 13) rfl (by omega) (fun d S P => eE_lit _ _ _ _ P _) _ hg) ?_
  rintro _ _ ⟨row, g1, m1, hrl, hrv, hg1, rfl, rfl⟩
  simp at hrl
  have ro : RwOk f.size data.length row := ⟨hrl, by rw [hB]; exact hrv⟩
  have z2 : szOk row.length = true := szOk_of (by omega)
  simp [z2]
  rw [← dR_def]
  refine evB_cons ?_
  simp [v_begins k (by omega) hf hdat (show data.length ≤ 1000 by omega) (gS0 g1 m1), well_app, well_len]
  have b1 : binD (wellS g1 m1 (S ++ [.lst ((begins f data).map dR)])) .add (.ref (S.length + 2)) (.lst [dR row]) = some (.lst ((begins f data ++ [row]).map dR)) := by
    rw [bin_ref_lst get_w (by simp; omega)]; simp
  rw [b1, ofO_some, eEs_nil]
  refine wp_mono (v_closing k (by omega) hf d1 d4 p16 (inp := begins f data ++ [row]) (by simp; omega) (fun r hr => ?_) rfl) ?_
  · rcases List.mem_append.mp hr with h | h
    · exact bo r h
    · simp at h; subst h; exact ro
  rintro _ _ ⟨rfl, F1, cl1, _, rfl⟩
  have F1l := cl1.len
  simp [bl] at F1l
  have F1o := cl1.ok (fun r hr => by
    rcases List.mem_append.mp hr with h | h
    · exact bo r h
    · simp at h; subst h; exact ro)
  simp
  refine evB_cons ?_
  simp [v_begins k (by omega) hf hdat (show data.length ≤ 1000 by omega) (gS g1 m1 [.lst ((begins f data).map dR)]), well_app, well_len]
  have gb : (wellS g1 m1 (S ++ [.lst ((begins f data).map dR), .lst ((begins f data).map dR)]))[S.length + 1 + 2]? = some (.lst ((begins f data).map dR)) := by rw [well_get]; exact get1
  refine wp_mono (v_closing k (by omega) hf d1 d4 p16 (inp := begins f data) (by omega) bo (A := .ref (S.length + 1 + 2)) (by simp only [seqOf, gb])) ?_
  rintro _ _ ⟨rfl, F2, cl2, _, rfl⟩
  have F2l := cl2.len
  rw [bl] at F2l
  have F2o := cl2.ok bo
  have q1 : Gv 2 (.tup ((sset F1).map dR)) := Gv.rows (Nat.le_trans (sset_len F1) (by omega)) fun r hr => by have := (F1o r (mem_sset.mp hr)).1; omega
  have l2 : (sset F2).length ≤ 20 := Nat.le_trans (sset_len F2) (by omega)
  have q2 : Gv 2 (.tup ((sset F2).map dR)) := Gv.rows (by omega) fun r hr => by have := (F2o r (mem_sset.mp hr)).1; omega
  generalize hL1 : (sset F1).map dR = L1 at *
  generalize hL2 : (sset F2).map dR = L2 at *
  have l2' : L2.length ≤ 20 := by rw [← hL2, List.length_map]; exact l2
  simp
  refine evB_cons ?_
  have ba : ∀ S : List O, binD S .add (.tup L2) (.tup (L2.drop (L2.length - 1))) = some (.tup (L2 ++ L2.drop (L2.length - 1))) := fun S => bin_tup _ (by simp; omega)
  simp [cut_from_neg, ba, well_app, well_len]
  have v3 : Gv 2 (.tup (L2.drop 1)) := q2.cut (fun d hd => List.mem_of_mem_drop hd) (by simp; omega)
  have v4 : Gv 2 (.tup L2.reverse) := q2.cut (fun d hd => List.mem_reverse.mp hd) (by simp; omega)
  have v5 : Gv 2 (.tup (L2 ++ L2.drop (L2.length - 1))) := q2.cut (fun d hd => by
    rcases List.mem_append.mp hd with h | h
    · exact h
    · exact List.mem_of_mem_drop h) (by simp; omega)
  have g0 : ∀ v ∈ [D.tup [.str "lot", .tup L1], .tup [.str "lot", .tup L2], .tup [.str "lot", .tup L2.tail], .tup [.str "lot", .tup L2.reverse], .tup [.str "lot", .tup (L2 ++ L2.drop (L2.length - 1))]], Gv 10 v := by
    intro v hv
    simp at hv
    rcases hv with rfl | rfl | rfl | rfl | rfl
    · exact q1.lot.up (by omega)
    · exact q2.lot.up (by omega)
    · have := v3.lot.up (show 3 ≤ 10 by omega)
      simpa using this
    · exact v4.lot.up (by omega)
    · exact v5.lot.up (by omega)
  obtain ⟨L0, hL0⟩ : ∃ L0, [D.tup [.str "lot", .tup L1], .tup [.str "lot", .tup L2], .tup [.str "lot", .tup L2.tail], .tup [.str "lot", .tup L2.reverse], .tup [.str "lot", .tup (L2 ++ L2.drop (L2.length - 1))]] = L0 := ⟨_, rfl⟩
  have l0 : L0.length = 5 := by rw [← hL0]; rfl
  rw [hL0] at g0 ⊢
  rw [show S.length + 2 + 2 = S.length + 4 from rfl]
  obtain ⟨B, hBq⟩ : ∃ B, (begins f data).map dR = B := ⟨_, rfl⟩
  rw [hBq]
  have fini : ∀ (vals : List D) (g' : List Int) (m' : Int) (σ : Rx.Env), (∀ v ∈ vals, Gv 10 v) → vals.length ≤ 100 → g'.length ≤ 40 → σ[9]? = some (some (.ref (S.length + 4))) → wp (evB (evF cs T k) cs [.ret (.var 9)] σ (wellS g' m' (S ++ [.lst B, .lst B, .lst vals]))) (endP true (wellS g m S) (OthP S)) := by
    intro vals g' m' σ h1 h2 h3 h4
    rw [evB_one, eS_ret, eE_var, h4, getV_some, endP_ret, fin_well_lst rfl (by rw [well_len]; omega) get_w2 (oks_clean _ _ (oks_iff.mpr fun v hv => (h1 v hv).1)), wp_ok]
    exact ⟨vals, g', m', h1, h2, h3, rfl, rfl⟩
  refine evB_cons ?_
  rcases ht with ⟨sl, el, rfl, hs1, hs2, hs3, hs4⟩ | ⟨R, rfl, hR⟩
  · have so := ok_tup.mp hs1.1
    have se := ok_tup.mp hs2.1
    simp
    refine evB_cons ?_
    simp
    refine evB_cons ?_
    simp [rng2, -compL_consw, -compL_nilw]
    refine wp_mono (comp_draws k (by omega) (n := f.regs + sl.length) (by have := hf.r1; omega) (by omega) (σ := [some (.ref 1), some (dF f), some (dR lot), some (.ref (i + 2)), some (.tup [.str "way", .tup sl, .tup el]), some (di data.length), some (dR row), some (.tup L1), some (.tup L2), some (.ref (S.length + 4)), some (.tup sl), some (.tup el), none, none]) (i := 13) rfl (by omega) (fun d S P => by simp; exact Iff.rfl) [di 0, di 1] hg1) ?_
    rintro _ _ ⟨vs, g2, m2, hvs, hvl, hg2, rfl, rfl⟩
    obtain ⟨x, y, rfl⟩ : ∃ x y, vs = [x, y] := by
      match vs, hvs with
      | [x, y], _ => exact ⟨x, y, rfl⟩
    simp
    refine evB_cons ?_
    simp [isL_w2]
    refine wp_mono (v_drawnZ k (by omega) hg2 3 rfl (by omega) (by omega)) ?_
    rintro _ _ ⟨z, g3, m3, hz, hg3, rfl, rfl⟩
    have t3 : ∀ a b c : Nat, Gv 1 (.tup [di a, di b, di c]) := fun a b c => Gv.tup (by simp) fun d hd => by
      simp at hd
      rcases hd with rfl | rfl | rfl <;> exact Gv.nat _
    have sapp : ∀ a b c : Nat, Gv 2 (.tup (sl ++ [.tup [di a, di b, di c]])) := fun a b c => Gv.tup (by simp; omega) fun d hd => by
      rcases List.mem_append.mp hd with h | h
      · exact ⟨so.2 d h, dep_tup.mp hs1.2 d h⟩
      · simp at h; subst h; exact t3 a b c
    have b2 : ∀ (S : List O) (a b c : D), binD S .add (.tup [a]) (.tup [b, c]) = some (.tup [a, b, c]) := fun S a b c => by rw [bin_tup _ (by simp)]; rfl
    have b3 : ∀ (S : List O) (a : D), binD S .add (.tup sl) (.tup [a]) = some (.tup (sl ++ [a])) := fun S a => bin_tup _ (by simp; omega)
    have b4 : ∀ (S : List O) (a : D), binD S .add (.tup el.dropLast) (.tup [a]) = some (.tup (el.dropLast ++ [a])) := fun S a => bin_tup _ (by simp; omega)
    simp [b2, b3]
    rw [app_w2 (by omega), ofO_some]
    refine evB_cons ?_
    simp [isL_w2, b3, b4, cut_to_neg]
    rw [app_w2 (by simp; omega), ofO_some]
    refine evB_cons ?_
    simp [isL_w2, cut_to_neg]
    rw [ext_w2 (by simp; omega), ofO_some]
    simp only [cont_nil, cont_nx, evB_nil]
    refine fini _ _ _ _ (fun v hv => ?_) (by simp; omega) hg3 rfl
    have k2 : Gv 2 (.tup el) := hs2.up (by omega)
    have e1 : Gv 1 (.tup (el.dropLast ++ [di (f.regs + sl.length)])) := Gv.tup (by simp; omega) fun d hd => by
      rcases List.mem_append.mp hd with h | h
      · have h := (List.dropLast_sublist el).subset h
        exact ⟨se.2 d h, dep_tup.mp hs2.2 d h⟩
      · simp at h; subst h; exact Gv.nat _
    simp at hv
    rcases hv with h | rfl | rfl | rfl | rfl | rfl
    · exact g0 v h
    · exact ((sapp z x y).way k2).up (by omega)
    · exact ((sapp 0 x x).way (e1.up (show 1 ≤ 2 by omega))).up (by omega)
    · exact ((hs1.cut (p := sl.dropLast) (fun d hd => (List.dropLast_sublist sl).subset hd) (by simp; omega)).way k2).up (by omega)
    · exact (hs1.way ((hs2.cut (p := el.reverse) (fun d hd => List.mem_reverse.mp hd) (by simp; omega)).up (show 1 ≤ 2 by omega))).up (by omega)
    · exact (hs1.way ((hs2.cut (p := el.tail) (fun d hd => List.mem_of_mem_tail hd) (by simp; omega)).up (show 1 ≤ 2 by omega))).up (by omega)
  · simp
    refine evB_cons ?_
    have z5 : rngD [di f.regs] = some ((List.range f.regs).map di) := rngD_nat (by omega)
    have z6 : szOk f.regs = true := szOk_of (by omega)
    simp [z5, z6, isL_w2]
    rw [app_w2 (by omega), ofO_some]
    refine evB_cons ?_
    simp [isL_w2]
    rw [bin_mul_tup _ _ hf.r1 (by omega), ofO_some]
    simp
    rw [app_w2 (by simp; omega), ofO_some]
    simp only [cont_nil, cont_nx, evB_nil]
    refine fini _ _ _ _ (fun v hv => ?_) (by simp; omega) hg1 rfl
    have n0 : Gv 1 (.tup []) := Gv.tup (by simp) (by simp)
    have n1 : Gv 1 (.tup ((List.range f.regs).map di)) := Gv.tup (by simp; omega) fun d hd => by
      obtain ⟨q, _, rfl⟩ := List.mem_map.mp hd
      exact Gv.nat q
    have n2 : Gv 1 (.tup (List.replicate f.regs (di f.regs))) := Gv.tup (by simp; omega) fun d hd => by
      rw [List.eq_of_mem_replicate hd]; exact Gv.nat _
    have n3 : Gv 2 (.tup [.tup [.int 0, .int 0, .int 0]]) := Gv.tup (by simp) fun d hd => by
      simp at hd
      subst hd
      exact Gv.tup (by simp) fun d hd => by
        simp at hd
        subst hd
        exact Gv.nat 0
    simp at hv
    rcases hv with h | rfl | rfl
    · exact g0 v h
    · exact (n0.way n1).up (by omega)
    · exact (n3.way (n2.up (show 1 ≤ 2 by omega))).up (by omega)
end
end K66

set_option Elab.async false
set_option autoImplicit false
set_option linter.all false
set_option maxRecDepth 100000
namespace K66
open PySem L2 Rx Pl
/-! ### the law -/
structure ToldOk (f : Fr) (lot : Rw) (data W : List Rw) (told : D) : Prop where
  isT : Told f told
  ok : told.ok 30 = true
  dep : told.dep ≤ 3
  hold : holds f lot data W told = true
  its : ∃ l, told = .tup l ∧ 1 ≤ l.length ∧ l.length ≤ 3
theorem told_ok {f : Fr} (hf : f.Ok) (h2 : f.size = 2) {lot : Rw} {data W : List Rw} (hdat : ∀ d ∈ data, f.Dat d) (d4 : data.length ≤ 4) (hW : W.length = f.regs) {told : D} (h : IsWay f lot data W told ∨ IsLotP f lot data W told) : ToldOk f lot data W told := by
  have r4 := hf.r4
  have p16 : f.size ^ data.length ≤ 16 := by
    rw [h2]
    exact Nat.le_trans (Nat.pow_le_pow_right (by omega) d4) (by decide)
  have bo2 : ∀ r ∈ dedup (begins f data), RwOk f.size data.length r := fun r hr => begins_ok hf hdat r ((dedup_mem _ _).mp hr)
  have up : ∀ {j : Nat} {d : D}, d.ok 30 = true ∧ d.dep ≤ j → Gv j d := fun h => ⟨ok_mono (by omega) h.1, h.2⟩
  rcases h with ⟨e, hc, _, hm, rfl⟩ | ⟨R, ha, _, hr, hb, hcl, hn, rfl⟩
  · have kl := rows_len (hc.nodup (dedup_nodup _)) (hc.ok hf bo2)
    have el : e.length ≤ 16 := by
      rw [keysOf, List.length_append, List.length_map] at kl; omega
    have s1 : ∀ d ∈ e.map (stepD (allN f data e)), d.ok 30 = true ∧ d.dep ≤ 1 := fun d hd => by
      obtain ⟨x, _, rfl⟩ := List.mem_map.mp hd
      refine ⟨ok_tup.mpr ⟨by simp, fun d hd => ?_⟩, dep_tup.mpr fun d hd => ?_⟩
      · simp at hd; rcases hd with rfl | rfl | rfl <;> rfl
      · simp at hd; rcases hd with rfl | rfl | rfl <;> exact Nat.le_refl _
    have s2 : ∀ d ∈ W.map (fun r => di ((allN f data e).idxOf r)), d.ok 30 = true ∧ d.dep ≤ 0 := fun d hd => by
      obtain ⟨x, _, rfl⟩ := List.mem_map.mp hd
      exact ⟨rfl, Nat.le_refl _⟩
    have t1 : (D.tup (e.map (stepD (allN f data e)))).ok 30 = true ∧ (D.tup (e.map (stepD (allN f data e)))).dep ≤ 2 := ⟨ok_tup.mpr ⟨by simp; omega, fun d hd => (s1 d hd).1⟩, dep_tup.mpr fun d hd => (s1 d hd).2⟩
    have t2 : (D.tup (W.map fun r => di ((allN f data e).idxOf r))).ok 30 = true ∧ (D.tup (W.map fun r => di ((allN f data e).idxOf r))).dep ≤ 1 := ⟨ok_tup.mpr ⟨by simp; omega, fun d hd => (s2 d hd).1⟩, dep_tup.mpr fun d hd => (s2 d hd).2⟩
    refine ⟨.inl ⟨_, _, rfl, up t1, up t2, by simp; omega, by simp; omega⟩, ok_tup.mpr ⟨by simp, fun d hd => ?_⟩, dep_tup.mpr fun d hd => ?_, way_holds hc hW hm, ⟨_, rfl, by simp, by simp⟩⟩
    · simp at hd
      rcases hd with rfl | rfl | rfl
      · rw [ok_str]; exact strOk_ofString _
      · exact t1.1
      · exact t2.1
    · simp at hd
      rcases hd with rfl | rfl | rfl
      · exact Nat.zero_le _
      · exact t1.2
      · exact Nat.le_trans t2.2 (by omega)
  · have kl := rows_len (asc_nodup ha) hr
    have s1 : ∀ d ∈ R.map dR, d.ok 30 = true ∧ d.dep ≤ 1 := fun d hd => by
      obtain ⟨x, hx, rfl⟩ := List.mem_map.mp hd
      exact ⟨ok_dR (by rw [(hr x hx).1]; omega), dep_dR x⟩
    have t1 : (D.tup (R.map dR)).ok 30 = true ∧ (D.tup (R.map dR)).dep ≤ 2 := ⟨ok_tup.mpr ⟨by simp; omega, fun d hd => (s1 d hd).1⟩, dep_tup.mpr fun d hd => (s1 d hd).2⟩
    refine ⟨.inr ⟨_, rfl, up t1⟩, ok_tup.mpr ⟨by simp, fun d hd => ?_⟩, dep_tup.mpr fun d hd => ?_, lot_holds ha hr hb hcl hn, ⟨_, rfl, by simp, by simp⟩⟩
    · simp at hd
      rcases hd with rfl | rfl
      · rw [ok_str]; exact strOk_ofString _
      · exact t1.1
    · simp at hd
      rcases hd with rfl | rfl
      · exact Nat.zero_le _
      · exact t1.2
def SpsP (S : List O) (r : List D) (S' : List O) : Prop := ∃ (g' : List Int) (m' : Int), (∀ v ∈ r, Gv 10 v) ∧ r.length = 8 ∧ g'.length ≤ 40 ∧ S' = wellS g' m' S
def SpI (S : List O) (acc rest : List D) (S' : List O) : Prop := ∃ (g' : List Int) (m' : Int), (∀ v ∈ acc, Gv 10 v) ∧ acc.length + rest.length = 8 ∧ g'.length ≤ 40 ∧ S' = wellS g' m' S
theorem comp_spoilt (k : Nat) (hk : 10 ≤ k) {told : D} (ho : told.ok 30 = true) (hd : told.dep ≤ 3) {q : List D} {a b c d e z x y : Option D} {g : List Int} {m : Int} {S : List O} (hg : g.length ≤ 40) :
    wp (compL ⟨[], q⟩ (turnC (evF cs T k) cs [a, some (.ref 1), b, c, d, e, z, some told, x, y, none, none] [11] (.call 5 [.var 1, .var 7]) (.nm 11) []) ((List.range 8).map di) (wellS g m S)) (SpsP S) := by
  refine compL_wp0 (SpI S) ⟨g, m, by simp, by simp, hg, rfl⟩ (fun _ _ _ _ => rfl) ?_ ?_
  · rintro acc d rest S' ⟨g', m', h1, h2, hg', rfl⟩
    simp [turnC_put]
    refine wp_mono (v_spoilt 3 told k g' m' S ho hd (by omega) (by omega) hg') ?_
    rintro r _ ⟨g2, m2, o, dd, hg2, rfl⟩
    refine ⟨g2, m2, fun v hv => ?_, by simp at h2 ⊢; omega, hg2, rfl⟩
    rcases List.mem_append.mp hv with h | h
    · exact h1 v h
    · simp at h; subst h
      exact ⟨ok_mono (by omega) o, by omega⟩
  · rintro acc S' ⟨g', m', h1, h2, hg', rfl⟩
    exact ⟨g', m', h1, by simpa using h2, hg', rfl⟩
theorem rep_bl (S : List O) (b : Bool) : biD S .repr [.bl b] = some (.str (Str.ofString (if b then "True" else "False"))) := by cases b <;> rfl
theorem law_wp (ns : List Int) : wp (evF cs T 60 0 [.scr (ns.map D.int)] []) fun d S' => d = .bl true := by
  obtain ⟨k, hk⟩ : ∃ k, k = 59 := ⟨_, rfl⟩
  rw [show 60 = k + 1 by omega]
  (refine call_wp (f := f0) rfl rfl ?_; simp only [f0, b0, List.map_cons, List.map_nil, List.replicate_succ, List.replicate_zero, List.cons_append, List.nil_append, Nat.reduceSub])
  refine evB_cons ?_
  simp
  refine wp_mono (v_well k (by omega) ns 66 ⟨by omega, by omega⟩) ?_
  rintro _ _ ⟨rfl, g, m, hg, rfl⟩
  simp
  refine evB_cons ?_
  simp
  refine wp_mono (v_task k (by omega) hg) ?_
  rintro _ _ ⟨f, lot, data, l, g1, m1, X, hf, hc, h2, hlot, hdat, hdn, d1, d4, dr, hg1, rfl, rfl⟩
  have ddp := dr.dep
  have dsz : rsz l ≤ 1000 := by
    have h1 := dr.sz
    have h2 := Nat.mul_le_mul_right (rB 2) dr.len
    have h3 : rB 2 = 73 := rfl
    rw [h3] at h1 h2; omega
  have dl := dr.len
  have p16 : f.size ^ data.length ≤ 16 := by
    rw [h2]
    exact Nat.le_trans (Nat.pow_le_pow_right (by omega) d4) (by decide)
  have hW : (wanted f l data).length = f.regs := by simp [wanted, begins]
  have gS : ∀ (g : List Int) (m : Int), (wellS g m (.lst (data.map dR) :: X))[2]? = some (.lst (data.map dR)) := fun g m => rfl
  simp
  refine evB_cons ?_
  simp
  refine wp_mono (w_straight_paper k hf hc hlot hdat hdn d1 d4 ddp dr.ok dr.wid (by omega) (by omega) (by omega) (gS _ _)) ?_
  rintro told _ ⟨rfl, ht⟩
  obtain ⟨t1, t2, t3, t4, l0, rfl, l1, l3⟩ := told_ok hf h2 hdat d4 hW ht
  have t2' : (D.tup l0).ok 40 = true := ok_mono (by omega) t2
  have li := ok_tup.mp t2
  have ld := dep_tup.mp t3
  simp
  refine evB_cons ?_
  simp [v_holds k (by omega) hf hdat d1 d4 p16 hW t2' (show (D.tup l0).dep ≤ 20 by omega) (gS _ _), t4]
  refine evB_cons ?_
  have b1 : ∀ S : List O, binD S .add (.tup l0) (.tup [.tup []]) = some (.tup (l0 ++ [.tup []])) := fun S => bin_tup _ (by simp; omega)
  have z8 : rngD [.int 8] = some ((List.range 8).map di) := rngD_nat (n := 8) (by omega)
  simp [b1, -compL_consw, -compL_nilw]
  rw [z8, ofO_some]
  refine wp_mono (comp_spoilt k (by omega) t2 t3 hg1) ?_
  rintro sp _ ⟨g2, m2, hsp, spl, hg2, rfl⟩
  have z9 : szOk sp.length = true := szOk_of (by omega)
  rw [z9, ifB_t, bin_lst _ (by simp; omega), ofO_some]
  simp
  refine evB_cons ?_
  have hto : Gv 3 (.tup l0) := ⟨t2', t3⟩
  have li40 : ∀ d ∈ l0, Gv 2 d := fun d hd => ⟨ok_mono (by omega) (li.2 d hd), ld d hd⟩
  simp
  refine wp_mono (v_others k (by omega) hf h2 hdat d1 d4 t1 hg2 (i := 0) rfl) ?_
  rintro _ _ ⟨vals, g3, m3, hvals, hvl, hg3, rfl, rfl⟩
  rw [bin_lst _ (by simp; omega), ofO_some]
  simp only [srcOf_lst, ofO_some]
  have all : ∀ v ∈ (D.tup l0 :: .lst l0 :: .tup (l0.take 1) :: .tup (l0 ++ [.tup []]) :: .non :: sp) ++ vals, Gv 10 v := by
    intro v hv
    have hv : v ∈ [D.tup l0, .lst l0, .tup (l0.take 1), .tup (l0 ++ [.tup []]), .non] ++ sp ++ vals := hv
    rcases List.mem_append.mp hv with h | h
    · rcases List.mem_append.mp h with h | h
      · simp at h
        rcases h with rfl | rfl | rfl | rfl | rfl
        · exact hto.up (by omega)
        · exact ⟨ok_lst.mpr ⟨by omega, fun d hd => (li40 d hd).1⟩, Nat.le_trans (dep_lst (n := 2) |>.mpr fun d hd => (li40 d hd).2) (by omega)⟩
        · exact (Gv.tup (j := 2) (by simp; omega) fun d hd => li40 d (List.mem_of_mem_take hd)).up (by omega)
        · refine (Gv.tup (j := 2) (by simp; omega) fun d hd => ?_).up (show 3 ≤ 10 by omega)
          rcases List.mem_append.mp hd with h | h
          · exact li40 d h
          · simp at h; subst h
            exact (Gv.tup (j := 0) (by simp) (by simp)).up (by omega)
        · exact ⟨rfl, Nat.zero_le _⟩
      · exact hsp v h
    · exact hvals v h
  refine forL_preD _ (fun a σ S' => S' = wellS g3 m3 (.lst (data.map dR) :: X) ∧ ∃ v8 p q r, σ = [some (.scr (ns.map D.int)), some (.ref 1), some (dF f), some (dR lot), some (.ref 2), some (.tup (dRows l)), some (.lst ((wanted f l data).map dR)), some (.tup l0), v8, p, q, r]) (fun _ _ _ _ => rfl) ?_ ?_ ⟨rfl, _, _, _, _, rfl⟩
  · rintro a v b σ _ ea ⟨rfl, v8, p, q, r, rfl⟩
    have gv : Gv 10 v := all v (by rw [ea]; simp)
    rw [forT_put (σ' := [some (.scr (ns.map D.int)), some (.ref 1), some (dF f), some (dR lot), some (.ref 2), some (.tup (dRows l)), some (.lst ((wanted f l data).map dR)), some (.tup l0), v8, some v, q, r]) _ _ _ _ (by simp)]
    refine evB_cons ?_
    simp [v_holds k (by omega) hf hdat d1 d4 p16 hW gv.1 (show v.dep ≤ 20 from Nat.le_trans gv.2 (by omega)) (gS _ _)]
    rw [evB_one]
    simp [w_straight_holds k hf hc hlot hdat hdn d1 d4 ddp dr.ok dr.wid (show rsz l ≤ 100000 by omega) (show l.length ≤ 1000 by omega) (by omega) (gS g3 m3) (ok_mono (show 40 ≤ 60 by omega) gv.1), rep_bl]
  · rintro σ _ ⟨rfl, v8, p, q, r, rfl⟩
    simp
    rw [evB_one]
    simp
    unfold fin
    simp [tidy]
end K66

namespace K66
open PySem L2 Rx Pl
theorem math : LawTrue cs T 60 0 := fun ns _ _ => by
  obtain ⟨d, S', e, h⟩ := wp_ex (law_wp ns)
  exact ⟨S', by rw [e, h]⟩
end K66

open PySem PySem.W PyProof.Rows
set_option maxRecDepth 100000 in
set_option maxHeartbeats 0 in
theorem PySem.Challenge.cw_leastpromise_k66_whole_any_papers_of_wha_holds : PySem.Challenge.rw_leastpromise_k66_whole_any_papers_of_wha.Holds := by
  w_on; o_law; k_head; (case hw => w_witness2)
  k_fill
  refine Rx.law_walk (k := 120) (x := "_law_script") (l := PySem.Challenge.rw_leastpromise_k66_whole_any_papers_of_wha) rfl rfl ⟨rfl, by decide, by decide⟩ (fun w h Y => PySem.W.kIn_of Y) ?F
  case F =>
    intro w mg fa h KX G hmg
    refine' K66.all_mk KX G hmg K66.math ?zzcC0 ?zzcg0 ?zzch0 ?zzco0 ?zzcs0 ?zzcm0 ?zzck_0 ?zzno0_0 ?zzno0_1 ?zzno0_2 ?zzno0_3 ?zzg0 ?zzd0 ?zzg1 ?zzd1 ?zzg2 ?zzd2 ?zzg3 ?zzd3 ?zzg4 ?zzd4 ?zzg5 ?zzd5 ?zzg6 ?zzd6 ?zzg7 ?zzd7 ?zzg8 ?zzd8 ?zzg9 ?zzd9 ?zzg10 ?zzd10 ?zzg11 ?zzd11 ?zzg12 ?zzd12 ?zzg13 ?zzd13 ?zzg14 ?zzd14 ?zzg15 ?zzd15 ?zzg16 ?zzd16 ?zzg17 ?zzd17 ?zzg18 ?zzi18 ?zzd18 ?zzg19 ?zzi19 ?zzd19 ?zzg20 ?zzi20 ?zzd20 ?zzg21 ?zzd21 ?zzg22 ?zzd22 ?zzg23 ?zzd23 ?zzg24 ?zzd24 ?zzg25 ?zzd25 ?zzg26 ?zzd26 ?zzg27 ?zzd27 ?zzg28 ?zzd28 ?zzg29 ?zzd29 ?zzg30 ?zzd30 ?zzg31 ?zzd31 ?zzg32 ?zzd32 ?zzg33 ?zzd33 ?zzg34 ?zzd34 ?zzg35 ?zzd35 ?zzg36 ?zzd36 ?zzg37 ?zzd37 ?zzg38 ?zzi38 ?zzd38 ?zzg39 ?zzd39 ?zzg40 ?zzd40 ?zzg41 ?zzd41 ?zzg42 ?zzd42 ?zzg43 ?zzd43 ?zzg44 ?zzd44 ?zzg45 ?zzd45 ?zzg46 ?zzd46 ?zzg47 ?zzd47 ?zzg48 ?zzd48 ?zzg49 ?zzd49 ?zzg50 ?zzd50 ?zzg51 ?zzd51 ?zzg52 ?zzd52 ?zzg53 ?zzd53 ?zzg54 ?zzd54 ?zzg55 ?zzd55 ?zzv0 ?zzv1 ?zzv2 ?zzv3 ?zzv5 ?zzv4 ?zzb0 ?zzb1 ?zzb2 ?zzb3 ?zzb4 ?zzb5 ?zzb6 ?zzb7 ?zzb8 ?zzb9 ?zzb10 ?zzb11 ?zzb12 ?zzb13 ?zzb14 ?zzb15
    (case zzcC0 => k_is)
    (case zzcg0 => k_is)
    (case zzch0 => k_is)
    (case zzco0 => k_is)
    (case zzcs0 => k_is)
    (case zzcm0 => k_is)
    (case zzck_0 => k_is)
    (case zzno0_0 => k_is)
    (case zzno0_1 => k_is)
    (case zzno0_2 => k_is)
    (case zzno0_3 => k_is)
    (case zzg0 => k_is)
    (case zzd0 => (refine' ⟨_, L2.fun_mk ?l ?c ?k⟩; (case l => k_is); (case c => k_is); (case k => k_is)))
    (case zzg1 => k_is)
    (case zzd1 => (refine' ⟨_, L2.fun_mk ?l ?c ?k⟩; (case l => k_is); (case c => k_is); (case k => k_is)))
    (case zzg2 => k_is)
    (case zzd2 => (refine' ⟨_, L2.fun_mk ?l ?c ?k⟩; (case l => k_is); (case c => k_is); (case k => k_is)))
    (case zzg3 => k_is)
    (case zzd3 => (refine' ⟨_, L2.fun_mk ?l ?c ?k⟩; (case l => k_is); (case c => k_is); (case k => k_is)))
    (case zzg4 => k_is)
    (case zzd4 => (refine' ⟨_, L2.fun_mk ?l ?c ?k⟩; (case l => k_is); (case c => k_is); (case k => k_is)))
    (case zzg5 => k_is)
    (case zzd5 => (refine' ⟨_, L2.fun_mk ?l ?c ?k⟩; (case l => k_is); (case c => k_is); (case k => k_is)))
    (case zzg6 => k_is)
    (case zzd6 => (refine' ⟨_, L2.fun_mk ?l ?c ?k⟩; (case l => k_is); (case c => k_is); (case k => k_is)))
    (case zzg7 => k_is)
    (case zzd7 => (refine' ⟨_, L2.fun_mk ?l ?c ?k⟩; (case l => k_is); (case c => k_is); (case k => k_is)))
    (case zzg8 => k_is)
    (case zzd8 => (refine' ⟨_, L2.fun_mk ?l ?c ?k⟩; (case l => k_is); (case c => k_is); (case k => k_is)))
    (case zzg9 => k_is)
    (case zzd9 => (refine' ⟨_, L2.fun_mk ?l ?c ?k⟩; (case l => k_is); (case c => k_is); (case k => k_is)))
    (case zzg10 => k_is)
    (case zzd10 => (refine' ⟨_, L2.fun_mk ?l ?c ?k⟩; (case l => k_is); (case c => k_is); (case k => k_is)))
    (case zzg11 => k_is)
    (case zzd11 => (refine' ⟨_, L2.fun_mk ?l ?c ?k⟩; (case l => k_is); (case c => k_is); (case k => k_is)))
    (case zzg12 => k_is)
    (case zzd12 => (refine' ⟨_, L2.fun_mk ?l ?c ?k⟩; (case l => k_is); (case c => k_is); (case k => k_is)))
    (case zzg13 => k_is)
    (case zzd13 => (refine' ⟨_, L2.fun_mk ?l ?c ?k⟩; (case l => k_is); (case c => k_is); (case k => k_is)))
    (case zzg14 => k_is)
    (case zzd14 => (refine' ⟨_, L2.fun_mk ?l ?c ?k⟩; (case l => k_is); (case c => k_is); (case k => k_is)))
    (case zzg15 => k_is)
    (case zzd15 => (refine' ⟨_, L2.fun_mk ?l ?c ?k⟩; (case l => k_is); (case c => k_is); (case k => k_is)))
    (case zzg16 => k_is)
    (case zzd16 => (refine' ⟨_, L2.fun_mk ?l ?c ?k⟩; (case l => k_is); (case c => k_is); (case k => k_is)))
    (case zzg17 => k_is)
    (case zzd17 => (refine' ⟨_, L2.fun_mk ?l ?c ?k⟩; (case l => k_is); (case c => k_is); (case k => k_is)))
    (case zzg18 => k_is)
    (case zzi18 => k_is)
    (case zzd18 => (refine' ⟨_, L2.fun_mk ?l ?c ?k⟩; (case l => k_is); (case c => k_is); (case k => k_is)))
    (case zzg19 => k_is)
    (case zzi19 => k_is)
    (case zzd19 => (refine' ⟨_, L2.fun_mk ?l ?c ?k⟩; (case l => k_is); (case c => k_is); (case k => k_is)))
    (case zzg20 => k_is)
    (case zzi20 => k_is)
    (case zzd20 => (refine' ⟨_, L2.fun_mk ?l ?c ?k⟩; (case l => k_is); (case c => k_is); (case k => k_is)))
    (case zzg21 => k_is)
    (case zzd21 => (refine' ⟨_, L2.fun_mk ?l ?c ?k⟩; (case l => k_is); (case c => k_is); (case k => k_is)))
    (case zzg22 => k_is)
    (case zzd22 => (refine' ⟨_, L2.fun_mk ?l ?c ?k⟩; (case l => k_is); (case c => k_is); (case k => k_is)))
    (case zzg23 => k_is)
    (case zzd23 => (refine' ⟨_, L2.fun_mk ?l ?c ?k⟩; (case l => k_is); (case c => k_is); (case k => k_is)))
    (case zzg24 => k_is)
    (case zzd24 => (refine' ⟨_, L2.fun_mk ?l ?c ?k⟩; (case l => k_is); (case c => k_is); (case k => k_is)))
    (case zzg25 => k_is)
    (case zzd25 => (refine' ⟨_, L2.fun_mk ?l ?c ?k⟩; (case l => k_is); (case c => k_is); (case k => k_is)))
    (case zzg26 => k_is)
    (case zzd26 => (refine' ⟨_, L2.fun_mk ?l ?c ?k⟩; (case l => k_is); (case c => k_is); (case k => k_is)))
    (case zzg27 => k_is)
    (case zzd27 => (refine' ⟨_, L2.fun_mk ?l ?c ?k⟩; (case l => k_is); (case c => k_is); (case k => k_is)))
    (case zzg28 => k_is)
    (case zzd28 => (refine' ⟨_, L2.fun_mk ?l ?c ?k⟩; (case l => k_is); (case c => k_is); (case k => k_is)))
    (case zzg29 => k_is)
    (case zzd29 => (refine' ⟨_, L2.fun_mk ?l ?c ?k⟩; (case l => k_is); (case c => k_is); (case k => k_is)))
    (case zzg30 => k_is)
    (case zzd30 => (refine' ⟨_, L2.fun_mk ?l ?c ?k⟩; (case l => k_is); (case c => k_is); (case k => k_is)))
    (case zzg31 => k_is)
    (case zzd31 => (refine' ⟨_, L2.fun_mk ?l ?c ?k⟩; (case l => k_is); (case c => k_is); (case k => k_is)))
    (case zzg32 => k_is)
    (case zzd32 => (refine' ⟨_, L2.fun_mk ?l ?c ?k⟩; (case l => k_is); (case c => k_is); (case k => k_is)))
    (case zzg33 => k_is)
    (case zzd33 => (refine' ⟨_, L2.fun_mk ?l ?c ?k⟩; (case l => k_is); (case c => k_is); (case k => k_is)))
    (case zzg34 => k_is)
    (case zzd34 => (refine' ⟨_, L2.fun_mk ?l ?c ?k⟩; (case l => k_is); (case c => k_is); (case k => k_is)))
    (case zzg35 => k_is)
    (case zzd35 => (refine' ⟨_, L2.fun_mk ?l ?c ?k⟩; (case l => k_is); (case c => k_is); (case k => k_is)))
    (case zzg36 => k_is)
    (case zzd36 => (refine' ⟨_, L2.fun_mk ?l ?c ?k⟩; (case l => k_is); (case c => k_is); (case k => k_is)))
    (case zzg37 => k_is)
    (case zzd37 => (refine' ⟨_, L2.fun_mk ?l ?c ?k⟩; (case l => k_is); (case c => k_is); (case k => k_is)))
    (case zzg38 => k_is)
    (case zzi38 => k_is)
    (case zzd38 => (refine' ⟨_, L2.fun_mk ?l ?c ?k⟩; (case l => k_is); (case c => k_is); (case k => k_is)))
    (case zzg39 => k_is)
    (case zzd39 => (refine' ⟨_, L2.fun_mk ?l ?c ?k⟩; (case l => k_is); (case c => k_is); (case k => k_is)))
    (case zzg40 => k_is)
    (case zzd40 => (refine' ⟨_, L2.fun_mk ?l ?c ?k⟩; (case l => k_is); (case c => k_is); (case k => k_is)))
    (case zzg41 => k_is)
    (case zzd41 => (refine' ⟨_, L2.fun_mk ?l ?c ?k⟩; (case l => k_is); (case c => k_is); (case k => k_is)))
    (case zzg42 => k_is)
    (case zzd42 => (refine' ⟨_, L2.fun_mk ?l ?c ?k⟩; (case l => k_is); (case c => k_is); (case k => k_is)))
    (case zzg43 => k_is)
    (case zzd43 => (refine' ⟨_, L2.fun_mk ?l ?c ?k⟩; (case l => k_is); (case c => k_is); (case k => k_is)))
    (case zzg44 => k_is)
    (case zzd44 => (refine' ⟨_, L2.fun_mk ?l ?c ?k⟩; (case l => k_is); (case c => k_is); (case k => k_is)))
    (case zzg45 => k_is)
    (case zzd45 => (refine' ⟨_, L2.fun_mk ?l ?c ?k⟩; (case l => k_is); (case c => k_is); (case k => k_is)))
    (case zzg46 => k_is)
    (case zzd46 => (refine' ⟨_, L2.fun_mk ?l ?c ?k⟩; (case l => k_is); (case c => k_is); (case k => k_is)))
    (case zzg47 => k_is)
    (case zzd47 => (refine' ⟨_, L2.fun_mk ?l ?c ?k⟩; (case l => k_is); (case c => k_is); (case k => k_is)))
    (case zzg48 => k_is)
    (case zzd48 => (refine' ⟨_, L2.fun_mk ?l ?c ?k⟩; (case l => k_is); (case c => k_is); (case k => k_is)))
    (case zzg49 => k_is)
    (case zzd49 => (refine' ⟨_, L2.fun_mk ?l ?c ?k⟩; (case l => k_is); (case c => k_is); (case k => k_is)))
    (case zzg50 => k_is)
    (case zzd50 => (refine' ⟨_, L2.fun_mk ?l ?c ?k⟩; (case l => k_is); (case c => k_is); (case k => k_is)))
    (case zzg51 => k_is)
    (case zzd51 => (refine' ⟨_, L2.fun_mk ?l ?c ?k⟩; (case l => k_is); (case c => k_is); (case k => k_is)))
    (case zzg52 => k_is)
    (case zzd52 => (refine' ⟨_, L2.fun_mk ?l ?c ?k⟩; (case l => k_is); (case c => k_is); (case k => k_is)))
    (case zzg53 => k_is)
    (case zzd53 => (refine' ⟨_, L2.fun_mk ?l ?c ?k⟩; (case l => k_is); (case c => k_is); (case k => k_is)))
    (case zzg54 => k_is)
    (case zzd54 => (refine' ⟨_, L2.fun_mk ?l ?c ?k⟩; (case l => k_is); (case c => k_is); (case k => k_is)))
    (case zzg55 => k_is)
    (case zzd55 => (refine' ⟨_, L2.fun_mk ?l ?c ?k⟩; (case l => k_is); (case c => k_is); (case k => k_is)))
    (case zzv0 => (apply Exists.intro; k_is))
    (case zzv1 => (apply Exists.intro; k_is))
    (case zzv2 => (apply Exists.intro; k_is))
    (case zzv3 => (apply Exists.intro; k_is))
    (case zzv5 => (apply Exists.intro; k_is))
    (case zzv4 => (apply Exists.intro; apply Exists.intro; apply Exists.intro; apply And.intro; (k_is); apply And.intro; (k_is); apply And.intro; (decide); apply And.intro; (repeat first | exact True.intro | refine ⟨⟨_, _, rfl, rfl⟩, ?_⟩); (intro g; repeat first | exact .nil | refine .cons rfl ⟨.int _, ⟨_, rfl⟩, fun _ _ => .int _⟩ ?_)))
    (case zzb0 => k_is)
    (case zzb1 => k_is)
    (case zzb2 => k_is)
    (case zzb3 => k_is)
    (case zzb4 => k_is)
    (case zzb5 => k_is)
    (case zzb6 => k_is)
    (case zzb7 => k_is)
    (case zzb8 => k_is)
    (case zzb9 => k_is)
    (case zzb10 => k_is)
    (case zzb11 => k_is)
    (case zzb12 => k_is)
    (case zzb13 => k_is)
    (case zzb14 => k_is)
    (case zzb15 => k_is)

