import PyProof.Rows.All
import Wide.All
import OpenK.AllK
import Wide.FinOn
import HandS.ForMost
import HandS.Conv
import HandS.IsInst
import HandS.Style
import HandS.TupAny
import HandS.TupLe
import HandS.Deep
import HandS.SetKeys
import HandS.NoneIn
import HandS.Property
import HandS.Rev
import HandS.HeadHook1
import KE.SortData
import KE.SortLaws
import KE.KDictCopyH
import KE.GoesEnum
import KE.GoesNew
import HandS.Strs
import HandS.Head0
import HandS.Head1
import HandS.Head2
import HandS.HeadEnd
import HandS.HeadHook2
import HandS.Defaults
import PySem.Challenge.RW_holdstill_k05_broken_and_stuck
set_option Elab.async false
set_option linter.all false
set_option maxRecDepth 100000
set_option maxHeartbeats 4000000
/-! Pl: pure values over the abstract heap, a small syntax, what it asks. -/
namespace Pl
open PySem L2

abbrev Fg := PySem.W.Frag

/-- pure values: tuples are values; ref: something that can change; rol: a list that is only read; dtp: a tuple that is known to have no dict -/
inductive U where
  | non | bl (b : Bool) | int (i : Int) | str (x : Str) | tup (l : List U) | ref (a : Addr) | rol (l : List U) | dtp (l : List U)

mutual
def U.dec : (x y : U) → Decidable (x = y)
  | .non, .non => .isTrue rfl
  | .bl a, .bl b => if h : a = b then .isTrue (by rw [h]) else .isFalse (fun e => h (by injection e))
  | .int a, .int b => if h : a = b then .isTrue (by rw [h]) else .isFalse (fun e => h (by injection e))
  | .str a, .str b => if h : a = b then .isTrue (by rw [h]) else .isFalse (fun e => h (by injection e))
  | .ref a, .ref b => if h : a = b then .isTrue (by rw [h]) else .isFalse (fun e => h (by injection e))
  | .tup a, .tup b => match U.decL a b with
    | .isTrue h => .isTrue (by rw [h])
    | .isFalse h => .isFalse (fun e => h (by injection e))
  | .rol a, .rol b => match U.decL a b with
    | .isTrue h => .isTrue (by rw [h])
    | .isFalse h => .isFalse (fun e => h (by injection e))
  | .non, .bl _ => .isFalse (fun e => nomatch e)
  | .non, .int _ => .isFalse (fun e => nomatch e)
  | .non, .str _ => .isFalse (fun e => nomatch e)
  | .non, .tup _ => .isFalse (fun e => nomatch e)
  | .non, .ref _ => .isFalse (fun e => nomatch e)
  | .non, .rol _ => .isFalse (fun e => nomatch e)
  | .bl _, .non => .isFalse (fun e => nomatch e)
  | .bl _, .int _ => .isFalse (fun e => nomatch e)
  | .bl _, .str _ => .isFalse (fun e => nomatch e)
  | .bl _, .tup _ => .isFalse (fun e => nomatch e)
  | .bl _, .ref _ => .isFalse (fun e => nomatch e)
  | .bl _, .rol _ => .isFalse (fun e => nomatch e)
  | .int _, .non => .isFalse (fun e => nomatch e)
  | .int _, .bl _ => .isFalse (fun e => nomatch e)
  | .int _, .str _ => .isFalse (fun e => nomatch e)
  | .int _, .tup _ => .isFalse (fun e => nomatch e)
  | .int _, .ref _ => .isFalse (fun e => nomatch e)
  | .int _, .rol _ => .isFalse (fun e => nomatch e)
  | .str _, .non => .isFalse (fun e => nomatch e)
  | .str _, .bl _ => .isFalse (fun e => nomatch e)
  | .str _, .int _ => .isFalse (fun e => nomatch e)
  | .str _, .tup _ => .isFalse (fun e => nomatch e)
  | .str _, .ref _ => .isFalse (fun e => nomatch e)
  | .str _, .rol _ => .isFalse (fun e => nomatch e)
  | .tup _, .non => .isFalse (fun e => nomatch e)
  | .tup _, .bl _ => .isFalse (fun e => nomatch e)
  | .tup _, .int _ => .isFalse (fun e => nomatch e)
  | .tup _, .str _ => .isFalse (fun e => nomatch e)
  | .tup _, .ref _ => .isFalse (fun e => nomatch e)
  | .tup _, .rol _ => .isFalse (fun e => nomatch e)
  | .ref _, .non => .isFalse (fun e => nomatch e)
  | .ref _, .bl _ => .isFalse (fun e => nomatch e)
  | .ref _, .int _ => .isFalse (fun e => nomatch e)
  | .ref _, .str _ => .isFalse (fun e => nomatch e)
  | .ref _, .tup _ => .isFalse (fun e => nomatch e)
  | .ref _, .rol _ => .isFalse (fun e => nomatch e)
  | .rol _, .non => .isFalse (fun e => nomatch e)
  | .rol _, .bl _ => .isFalse (fun e => nomatch e)
  | .rol _, .int _ => .isFalse (fun e => nomatch e)
  | .rol _, .str _ => .isFalse (fun e => nomatch e)
  | .rol _, .tup _ => .isFalse (fun e => nomatch e)
  | .rol _, .ref _ => .isFalse (fun e => nomatch e)
  | .dtp _, .non => .isFalse (fun e => nomatch e)
  | .non, .dtp _ => .isFalse (fun e => nomatch e)
  | .dtp _, .bl _ => .isFalse (fun e => nomatch e)
  | .bl _, .dtp _ => .isFalse (fun e => nomatch e)
  | .dtp _, .int _ => .isFalse (fun e => nomatch e)
  | .int _, .dtp _ => .isFalse (fun e => nomatch e)
  | .dtp _, .str _ => .isFalse (fun e => nomatch e)
  | .str _, .dtp _ => .isFalse (fun e => nomatch e)
  | .dtp _, .tup _ => .isFalse (fun e => nomatch e)
  | .tup _, .dtp _ => .isFalse (fun e => nomatch e)
  | .dtp _, .ref _ => .isFalse (fun e => nomatch e)
  | .ref _, .dtp _ => .isFalse (fun e => nomatch e)
  | .dtp _, .rol _ => .isFalse (fun e => nomatch e)
  | .rol _, .dtp _ => .isFalse (fun e => nomatch e)
  | .dtp a, .dtp b => match U.decL a b with
    | .isTrue h => .isTrue (by rw [h])
    | .isFalse h => .isFalse (fun e => h (by injection e))
def U.decL : (x y : List U) → Decidable (x = y)
  | [], [] => .isTrue rfl
  | [], _ :: _ => .isFalse (fun e => nomatch e)
  | _ :: _, [] => .isFalse (fun e => nomatch e)
  | a :: x, b :: y => match U.dec a b with
    | .isFalse h => .isFalse (fun e => h (by injection e))
    | .isTrue h => match U.decL x y with
      | .isFalse k => .isFalse (fun e => k (by injection e))
      | .isTrue k => .isTrue (by rw [h, k])
end
instance : DecidableEq U := U.dec

/-! ### values and the heap -/
/-- a tuple that was laid -/
def Tp (K : Fg) (H : Hp) (a : Addr) (vs : List V) : Prop :=
  H a = some (.tup vs)
theorem Tp.sq {K : Fg} {H : Hp} {a : Addr} {vs : List V} (h : Tp K H a vs) : SqT K H a vs := .inl (.inl h)
/-- a list that is never written -/
def Rl (K : Fg) (H : Hp) (a : Addr) (vs : List V) : Prop :=
  (∃ o, H a = some (.frz o (.lst vs))) ∨ ∃ (o : Obj) (its : Array Value) (n : Nat), K.lookup a = some o ∧ o.cls = .type "list" ∧ o.dict = none ∧ o.data = .seq its n ∧ its.size ≤ sizeLine ∧ Vals vs its.toList
theorem Rl.sq {K : Fg} {H : Hp} {a : Addr} {vs : List V} (h : Rl K H a vs) : SqL K H a vs := h.elim (fun h => .inl (.inr h)) .inr

/-- a tuple that was laid and has no dict -/
def Td (K : Fg) (H : Hp) (a : Addr) (vs : List V) : Prop := ∃ o, H a = some (.frz o (.tup vs)) ∧ o.dict = none
theorem Td.sq {K : Fg} {H : Hp} {a : Addr} {vs : List V} (h : Td K H a vs) : SqT K H a vs := .inl (.inr (h.elim fun o e => ⟨o, e.1⟩))
mutual
inductive Rel (K : Fg) (H : Hp) : V → U → Prop
  | non : Rel K H .non .non
  | bl (b : Bool) : Rel K H (.bl b) (.bl b)
  | int (i : Int) : Rel K H (.int i) (.int i)
  | str (x : Str) : Rel K H (.str x) (.str x)
  | tup {a : Addr} {vs : List V} {us : List U} : Tp K H a vs → RelL K H vs us → Rel K H (.ref a) (.tup us)
  | rol {a : Addr} {vs : List V} {us : List U} : Rl K H a vs → RelL K H vs us → Rel K H (.ref a) (.rol us)
  | ref (a : Addr) : Rel K H (.ref a) (.ref a)
  | dtp {a : Addr} {vs : List V} {us : List U} : Td K H a vs → RelL K H vs us → Rel K H (.ref a) (.dtp us)
inductive RelL (K : Fg) (H : Hp) : List V → List U → Prop
  | nil : RelL K H [] []
  | cons {v : V} {vs : List V} {u : U} {us : List U} : Rel K H v u → RelL K H vs us → RelL K H (v :: vs) (u :: us)
end

/-- what may change -/
inductive MO where
  | lst (us : List U)
  /-- z: walked at the moment; t: its keys are tuples -/
  | dct (z t : Bool) (ks : List (U × U))
  /-- an instance: its class's name, its attributes -/
  | obj (c : Str) (fs : List (Str × U))
abbrev Hm := Addr → Option MO
def um (M : Hm) (a : Addr) (o : MO) : Hm := fun b => if b = a then some o else M b
theorem um_same {M : Hm} {a : Addr} {o : MO} : um M a o a = some o := if_pos rfl
theorem um_ne {M : Hm} {a b : Addr} {o : MO} (h : b ≠ a) : um M a o b = M b := if_neg h
theorem um_um {M : Hm} {a : Addr} {o o' : MO} : um (um M a o) a o' = um M a o' := by
  funext b; unfold um; split <;> rfl
theorem um_comm {M : Hm} {a b : Addr} {o o' : MO} (h : a ≠ b) : um (um M a o) b o' = um (um M b o') a o := by
  funext c; unfold um
  by_cases h1 : c = b
  · subst h1
    rw [if_pos rfl, if_neg (fun e => h e.symm), if_pos rfl]
  · rw [if_neg h1]
    by_cases h2 : c = a
    · rw [if_pos h2, if_pos h2]
    · rw [if_neg h2, if_neg h2, if_neg h1]
theorem um_self {M : Hm} {a : Addr} {o : MO} (h : M a = some o) : um M a o = M := by
  funext b; unfold um
  by_cases e : b = a
  · rw [if_pos e, e, h]
  · rw [if_neg e]

def keyU : Key → U
  | .inl i => .int i
  | .inr x => .str x
theorem keyU_inj {a b : Key} (e : keyU a = keyU b) : a = b := by
  cases a <;> cases b <;> first | (injection e with e; rw [e]) | cases e
theorem keysU_inj : ∀ {a b : List Key}, a.map keyU = b.map keyU → a = b
  | [], [], _ => rfl
  | [], _ :: _, e => by cases e
  | _ :: _, [], e => by cases e
  | x :: xs, y :: ys, e => by
    rw [List.map_cons, List.map_cons] at e
    injection e with e1 e2
    rw [keyU_inj e1, keysU_inj e2]

/-- two rows of entries -/
def RelK (K : Fg) (H : Hp) : List (Key × V) → List (U × U) → Prop := Paired fun p q => q.1 = keyU p.1 ∧ Rel K H p.2 q.2
def RelT (K : Fg) (H : Hp) : List (List Key × V) → List (U × U) → Prop := Paired fun p q => q.1 = .tup (p.1.map keyU) ∧ Rel K H p.2 q.2
def RelF (K : Fg) (H : Hp) : List (Str × V) → List (Str × U) → Prop := Paired fun p q => p.1 = q.1 ∧ Rel K H p.2 q.2
/-- where a class lies -/
def cad (K : Fg) (c : Str) : Addr := He.ga K c
def fz (z : Bool) (o : Option HO) (u : HO) : Prop := if z = true then ∃ ob, o = some (.frz ob u) else o = some u

def OR (K : Fg) (H : Hp) (a : Addr) : MO → Prop
  | .lst us => ∃ vs, H a = some (.lst vs) ∧ RelL K H vs us
  | .dct z false ks => ∃ kvs, fz z (H a) (.dK kvs) ∧ RelK K H kvs ks
  | .dct z true ks => ∃ kvs, fz z (H a) (.dT kvs) ∧ RelT K H kvs ks
  | .obj c fs => ∃ dx vs, H a = some (.ins (cad K c) dx vs) ∧ RelF K H vs fs ∧ Cls K (cad K c) ∧ ∀ x ∈ vs, NoAttr K (cad K c) x.1
def Sim (K : Fg) (H : Hp) (M : Hm) : Prop := ∀ a o, M a = some o → OR K H a o
/-- what is not among M's things stays as it is; so does what is walked -/
structure Stp (H : Hp) (M : Hm) (H' : Hp) (M' : Hm) : Prop where
  keep : ∀ a o, H a = some o → M a = none → H' a = some o ∧ M' a = none
  lock : ∀ a t ks, M a = some (.dct true t ks) → H' a = H a ∧ (M' a = M a ∨ M' a = none)

theorem Stp.refl (H : Hp) (M : Hm) : Stp H M H M := ⟨fun _ _ h n => ⟨h, n⟩, fun _ _ _ _ => ⟨rfl, .inl rfl⟩⟩

theorem fz_some {z : Bool} {o : Option HO} {u : HO} (h : fz z o u) : ∃ x, o = some x := by
  unfold fz at h
  cases z with
  | true => obtain ⟨_, e⟩ := (show ∃ ob, o = some (.frz ob u) from h); exact ⟨_, e⟩
  | false => exact ⟨_, h⟩
theorem OR.has {K : Fg} {H : Hp} {a : Addr} {o : MO} (h : OR K H a o) : ∃ x, H a = some x := by
  cases o with
  | lst us => obtain ⟨vs, e, _⟩ := h; exact ⟨_, e⟩
  | dct z t ks =>
    cases t with
    | false => obtain ⟨kvs, e, _⟩ := h; exact fz_some e
    | true => obtain ⟨kvs, e, _⟩ := h; exact fz_some e
  | obj c fs => obtain ⟨dx, vs, e, _⟩ := h; exact ⟨_, e⟩
theorem Stp.trans {K : Fg} {H H1 H2 : Hp} {M M1 M2 : Hm} (S : Sim K H M) (a : Stp H M H1 M1) (b : Stp H1 M1 H2 M2) : Stp H M H2 M2 :=
  ⟨fun x o h n => let ⟨h1, n1⟩ := a.keep x o h n; b.keep x o h1 n1, fun x t ks e => by
    obtain ⟨e1, e2⟩ := a.lock x t ks e
    rcases e2 with e2 | e2
    · obtain ⟨f1, f2⟩ := b.lock x t ks (by rw [e2]; exact e)
      exact ⟨f1.trans e1, by rw [← e2]; exact f2⟩
    · obtain ⟨o, ho⟩ := (S x _ e).has
      obtain ⟨f1, f2⟩ := b.keep x o (by rw [e1]; exact ho) e2
      exact ⟨by rw [f1, ho], .inr f2⟩⟩
theorem Sim.fr {K : Fg} {H : Hp} {M : Hm} (S : Sim K H M) {a : Addr} (h : H a = none) : M a = none := by
  cases e : M a with
  | none => rfl
  | some o =>
    obtain ⟨x, q⟩ := (S a o e).has
    rw [h] at q
    cases q
theorem fz_tup {z : Bool} {o : Option HO} {u : HO} {vs : List V} (h : fz z o u) (hu : ∀ xs, u ≠ .tup xs) : o ≠ some (.tup vs) := fun e => by
  unfold fz at h
  cases z with
  | true =>
    obtain ⟨_, q⟩ := (show ∃ ob, o = some (.frz ob u) from h)
    rw [e] at q
    cases q
  | false =>
    have q : o = some u := h
    rw [e] at q
    cases q
    exact hu _ rfl
theorem fz_rol {z : Bool} {o : Option HO} {u : HO} {ob : Obj} {vs : List V} (h : fz z o u) (hu : ∀ xs, u ≠ .lst xs) (hf : ∀ o' x, u ≠ .frz o' x) : o ≠ some (.frz ob (.lst vs)) := fun e => by
  unfold fz at h
  cases z with
  | true =>
    obtain ⟨_, q⟩ := (show ∃ ob, o = some (.frz ob u) from h)
    rw [e] at q
    cases q
    exact hu _ rfl
  | false =>
    have q : o = some u := h
    rw [e] at q
    cases q
    exact hf _ _ rfl
theorem Sim.noTup {K : Fg} {H : Hp} {M : Hm} (S : Sim K H M) {a : Addr} {vs : List V} (h : H a = some (.tup vs)) : M a = none := by
  cases e : M a with
  | none => rfl
  | some o =>
    have q := S a o e
    cases o with
    | lst us =>
      obtain ⟨_, e2, _⟩ := q
      rw [h] at e2
      cases e2
    | dct z t ks =>
      cases t with
      | false => obtain ⟨kvs, e2, _⟩ := q; exact absurd h (fz_tup e2 fun _ x => nomatch x)
      | true => obtain ⟨kvs, e2, _⟩ := q; exact absurd h (fz_tup e2 fun _ x => nomatch x)
    | obj c fs =>
      obtain ⟨_, _, e2, _⟩ := q
      rw [h] at e2
      cases e2
theorem Sim.noRol {K : Fg} {H : Hp} {M : Hm} (S : Sim K H M) {a : Addr} {ob : Obj} {vs : List V} (h : H a = some (.frz ob (.lst vs))) : M a = none := by
  cases e : M a with
  | none => rfl
  | some o =>
    have q := S a o e
    cases o with
    | lst us =>
      obtain ⟨_, e2, _⟩ := q
      rw [h] at e2
      cases e2
    | dct z t ks =>
      cases t with
      | false => obtain ⟨kvs, e2, _⟩ := q; exact absurd h (fz_rol e2 (fun _ x => nomatch x) fun _ _ x => nomatch x)
      | true => obtain ⟨kvs, e2, _⟩ := q; exact absurd h (fz_rol e2 (fun _ x => nomatch x) fun _ _ x => nomatch x)
    | obj c fs =>
      obtain ⟨_, _, e2, _⟩ := q
      rw [h] at e2
      cases e2
theorem fz_td {z : Bool} {o : Option HO} {u : HO} {ob : Obj} {vs : List V} (h : fz z o u) (hu : ∀ xs, u ≠ .tup xs) (hf : ∀ o' x, u ≠ .frz o' x) : o ≠ some (.frz ob (.tup vs)) := fun e => by
  unfold fz at h
  cases z with
  | true =>
    obtain ⟨_, q⟩ := (show ∃ ob, o = some (.frz ob u) from h)
    rw [e] at q
    cases q
    exact hu _ rfl
  | false =>
    have q : o = some u := h
    rw [e] at q
    cases q
    exact hf _ _ rfl
theorem Sim.noTd {K : Fg} {H : Hp} {M : Hm} (S : Sim K H M) {a : Addr} {ob : Obj} {vs : List V} (h : H a = some (.frz ob (.tup vs))) : M a = none := by
  cases e : M a with
  | none => rfl
  | some o =>
    have q := S a o e
    cases o with
    | lst us =>
      obtain ⟨_, e2, _⟩ := q
      rw [h] at e2
      cases e2
    | dct z t ks =>
      cases t with
      | false => obtain ⟨kvs, e2, _⟩ := q; exact absurd h (fz_td e2 (fun _ x => nomatch x) fun _ _ x => nomatch x)
      | true => obtain ⟨kvs, e2, _⟩ := q; exact absurd h (fz_td e2 (fun _ x => nomatch x) fun _ _ x => nomatch x)
    | obj c fs =>
      obtain ⟨_, _, e2, _⟩ := q
      rw [h] at e2
      cases e2
theorem Td.stp {K : Fg} {H H' : Hp} {M M' : Hm} (S : Sim K H M) (t : Stp H M H' M') {a : Addr} {vs : List V} (h : Td K H a vs) : Td K H' a vs := by
  obtain ⟨o, h, d⟩ := h
  exact ⟨o, (t.keep a _ h (S.noTd h)).1, d⟩
theorem Tp.stp {K : Fg} {H H' : Hp} {M M' : Hm} (S : Sim K H M) (t : Stp H M H' M') {a : Addr} {vs : List V} (h : Tp K H a vs) : Tp K H' a vs := by
  exact (t.keep a _ h (S.noTup h)).1
theorem Rl.stp {K : Fg} {H H' : Hp} {M M' : Hm} (S : Sim K H M) (t : Stp H M H' M') {a : Addr} {vs : List V} (h : Rl K H a vs) : Rl K H' a vs := by
  rcases h with ⟨o, h⟩ | h
  · exact .inl ⟨o, (t.keep a _ h (S.noRol h)).1⟩
  · exact .inr h
mutual
theorem Rel.stp {K : Fg} {H H' : Hp} {M M' : Hm} (S : Sim K H M) (t : Stp H M H' M') {v : V} {u : U} (h : Rel K H v u) : Rel K H' v u := by
  cases h with
  | non => exact .non
  | bl b => exact .bl b
  | int i => exact .int i
  | str x => exact .str x
  | tup h1 h2 => exact .tup (h1.stp S t) (h2.stp S t)
  | rol h1 h2 => exact .rol (h1.stp S t) (h2.stp S t)
  | ref a => exact .ref a
  | dtp h1 h2 => exact .dtp (h1.stp S t) (h2.stp S t)
theorem RelL.stp {K : Fg} {H H' : Hp} {M M' : Hm} (S : Sim K H M) (t : Stp H M H' M') {v : List V} {u : List U} (h : RelL K H v u) : RelL K H' v u := by
  cases h with
  | nil => exact .nil
  | cons h1 h2 => exact .cons (h1.stp S t) (h2.stp S t)
end
end Pl

set_option maxHeartbeats 4000000
/-! the syntax and what it asks -/
namespace Pl
open PySem L2

inductive Bop where | add | sub | mul | fdiv | mod | pow | shl | shr | band | bor
  deriving DecidableEq
inductive Cop where | eq | ne | lt | le | gt | ge | isin | notin
  deriving DecidableEq
/-- built-in functions and classes that are called -/
inductive Bfn where | len | list | tuple | int | abs | max | min | sorted | sum | all | any | set | str | dict | bool | tupd
  deriving DecidableEq
/-- methods of built-in types -/
inductive Mfn where | append | extend | pop | popAt | split | get1 | get2 | setdefault | index | join | insert | remove | items | pop2 | isalpha | islower | replace
  deriving DecidableEq
/-- targets: one name, a flat tuple of names -/
inductive Tg where | one (i : Nat) | many (is : List Nat)
  deriving DecidableEq
def Tg.slots : Tg → List Nat
  | .one i => [i]
  | .many is => is

inductive E where
  | var (i : Nat) | int (i : Int) | str (x : Str) | bl (b : Bool) | non
  | nil | cons (a b : E)
  | tup (es : E) | lst (es : E) | dnew (t : Bool) | dtup (es : E)
  | bin (op : Bop) (a b : E) | neg (a : E)
  | cmp (op : Cop) (a b : E) | chain (o1 o2 : Cop) (a b c : E)
  | isN (a : E) | notN (a : E) | isB (neg b : Bool) (a : E)
  | ands (es : E) | ors (es : E) | not (a : E) | ite (c a b : E)
  | ix (a i : E) | dget (o k d : E) | slice (a lo hi : E)
  | call (f : Nat) (es : E) | blt (f : Bfn) (es : E) | mth (m : Mfn) (o es : E) | isinst (a : E) (t : String)
  | comp (own : List (Str × Nat)) (tg : Tg) (it c elt : E)
  | fld (f : Str) (o : E) | meth (c m : Str) (f : Nat) (o es : E) | make (c : Str) (f : Nat) (es : E) | prop (c m : Str) (f : Nat) (o : E)
  | setdef (o k d : E) | lrng (t : Bool) (a b : E) | tidx (o e : E) | gint (x : Str) (i : Int) | gstr (x s : Str)
  | iSeq (a : E) | iRange (a : E) | iRange2 (a b : E) | iEnum (a : E) | iKeys (a : E) | iRev (a : E)
  deriving DecidableEq

inductive S where
  | skip | seq (a b : S)
  | asg (i : Nat) (e : E) | asgT (is : List Nat) (e : E) | par (i j : Nat) (a b : E)
  | setF (c f : Str) (o e : E)
  | setIx (o i e : E) | augV (i : Nat) (op : Bop) (e : E) | augIx (o i : E) (op : Bop) (e : E)
  | ifs (c : E) (a b : S) | for_ (tg : Tg) (it : E) (b : S) | whl (c : E) (b : S)
  | ret (e : E) | retN | brk | cnt | expr (e : E) | nvr
  deriving DecidableEq

abbrev SU := List (Option U)
abbrev QU := U → Hm → Prop
abbrev WE := SU → Hm → QU → Prop
abbrev WT := SU → Hm → (Bool → Hm → Prop) → Prop
abbrev WL := SU → Hm → (List U → Hm → Prop) → Prop
abbrev WO := SU → Hm → (Option Int → Hm → Prop) → Prop
/-- what is walked: its items, what must stay, how an exit is reached -/
abbrev WI := SU → Hm → (List U → (Hm → Prop) → ((Hm → Prop) → Hm → Prop) → Hm → Prop) → Prop

def LIM : Nat := 100000

/-! ### data -/
def okS (x : Str) : Bool := x.cps.all (· < 0x110000)
def U.ok : Nat → U → Bool
  | _, .non => true
  | _, .int _ => true
  | _, .str x => okS x
  | n + 1, .tup l => l.all (U.ok n)
  | _, _ => false
def okU (x : U) : Bool := x.ok 60
def okL (l : List U) : Bool := l.all (U.ok 59)

def eqW (x y : U) (M : Hm) (Q : Bool → Hm → Prop) : Prop := match x, y with
  | .bl a, .bl b => Q (a == b) M
  | .int a, .int b => Q (decide (a = b)) M
  | .str a, .str b => Q (decide (a = b)) M
  | .ref p, .ref q => ∃ us ws, M p = some (.lst us) ∧ M q = some (.lst ws) ∧ okL us = true ∧ okL ws = true ∧ Q (decide (us = ws)) M
  | x, y => okU x = true ∧ okU y = true ∧ Q (decide (x = y)) M

def dfind (ks : List (U × U)) (k : U) : Option U := (ks.find? fun p => decide (p.1 = k)).map (·.2)
def dput (ks : List (U × U)) (k v : U) : List (U × U) := if (dfind ks k).isSome = true then ks.map fun p => if p.1 = k then (p.1, v) else p else ks ++ [(k, v)]
/-- a key of ints and texts | of tuples of such -/
def isKey : U → Bool
  | .int _ => true
  | .str _ => true
  | _ => false
def isKeyT : U → Bool
  | .tup l => l.all isKey
  | _ => false
def keyFor (t : Bool) (k : U) : Bool := match t with
  | true => isKeyT k
  | false => isKey k

def inW (neg : Bool) (x y : U) (M : Hm) (Q : Bool → Hm → Prop) : Prop := match y with
  | .tup l => okU x = true ∧ okL l = true ∧ (l.all isKey = true ∧ isKey x = true) ∧ Q (if neg then !decide (x ∈ l) else decide (x ∈ l)) M
  | .dtp l => (l.all isKey = true ∧ isKey x = true) ∧ Q (if neg then !decide (x ∈ l) else decide (x ∈ l)) M
  | .ref p => (∃ us, M p = some (.lst us) ∧ okU x = true ∧ okL us = true ∧ Q (if neg then !decide (x ∈ us) else decide (x ∈ us)) M) ∨
      ∃ z t ks, M p = some (.dct z t ks) ∧ keyFor t x = true ∧ Q (if neg then !(dfind ks x).isSome else (dfind ks x).isSome) M
  | _ => False

def cmpW (op : Cop) (x y : U) (M : Hm) (Q : Bool → Hm → Prop) : Prop := match op with
  | .eq => eqW x y M Q
  | .ne => eqW x y M fun b M => Q (!b) M
  | .lt => (match x, y with | .int i, .int j => Q (decide (i < j)) M | _, _ => False)
  | .le => (match x, y with | .int i, .int j => Q (decide (i ≤ j)) M | _, _ => False)
  | .gt => (match x, y with | .int i, .int j => Q (decide (j < i)) M | _, _ => False)
  | .ge => (match x, y with | .int i, .int j => Q (decide (j ≤ i)) M | _, _ => False)
  | .isin => inW false x y M Q
  | .notin => inW true x y M Q

def binW (op : Bop) (x y : U) (M : Hm) (Q : QU) : Prop := match op, x, y with
  | .add, .int i, .int j => Q (.int (i + j)) M
  | .sub, .int i, .int j => Q (.int (i - j)) M
  | .mul, .int i, .int j => CMul i j ∧ Q (.int (i * j)) M
  | .fdiv, .int i, .int j => CDiv i j ∧ Q (.int (i / j)) M
  | .mod, .int i, .int j => 0 < j ∧ Q (.int (i % j)) M
  | .pow, .int i, .int j => CPow i j ∧ Q (.int (i ^ j.toNat)) M
  | .shl, .int i, .int j => CPow i j ∧ Q (.int (i * 2 ^ j.toNat)) M
  | .shr, .int i, .int j => 0 ≤ j ∧ Q (.int (i / 2 ^ j.toNat)) M
  | .band, .int i, .int j => Q (.int (Builtin.bitAnd i j)) M
  | .bor, .int i, .int j => Q (.int (Builtin.bitOr i j)) M
  | .add, .str a, .str b => a.length + b.length ≤ LIM ∧ Q (.str (a ++ b)) M
  | .add, .tup a, .tup b => a.length + b.length ≤ LIM ∧ Q (.tup (a ++ b)) M
  | .mul, .ref p, .int k => ∃ us, M p = some (.lst us) ∧ -LIM ≤ k ∧ k ≤ LIM ∧ us.length * k.toNat ≤ LIM ∧ ∀ a, M a = none → Q (.ref a) (um M a (.lst (List.replicate k.toNat us).flatten))
  | .add, .ref p, .ref q => ∃ us ws, M p = some (.lst us) ∧ M q = some (.lst ws) ∧ us.length + ws.length ≤ LIM ∧ ∀ a, M a = none → Q (.ref a) (um M a (.lst (us ++ ws)))
  | _, _, _ => False

def truW (x : U) (M : Hm) (Q : Bool → Hm → Prop) : Prop := match x with
  | .bl b => Q b M
  | .int i => Q (i != 0) M
  | .str s => s.length ≤ LIM ∧ Q (s.length != 0) M
  | .non => Q false M
  | .tup l => Q (!l.isEmpty) M
  | .ref p => (∃ us, M p = some (.lst us) ∧ Q (!us.isEmpty) M) ∨ ∃ ks, M p = some (.dct false false ks) ∧ Q (!ks.isEmpty) M
  | .rol _ => False
  | .dtp l => Q (!l.isEmpty) M

def ixW (x i : U) (M : Hm) (Q : QU) : Prop := match x with
  | .dtp l => ∃ j v, i = .int j ∧ atI l j = some v ∧ Q v M
  | .tup l => ∃ j v, i = .int j ∧ atI l j = some v ∧ Q v M
  | .ref p => (∃ us j v, M p = some (.lst us) ∧ i = .int j ∧ atI us j = some v ∧ Q v M) ∨ ∃ z t ks v, M p = some (.dct z t ks) ∧ keyFor t i = true ∧ dfind ks i = some v ∧ Q v M
  | .str z => ∃ j c, i = .int j ∧ z.length ≤ LIM ∧ atI z.cps.toList j = some c ∧ Q (.str ⟨#[c]⟩) M
  | _ => False
/-- d.get(k, x) -/
def isDW (x : U) (M : Hm) : Prop := ∃ p z t ks, x = .ref p ∧ M p = some (.dct z t ks)
def dgetW (x y v : U) (M : Hm) (Q : QU) : Prop := ∃ p z t ks, x = .ref p ∧ M p = some (.dct z t ks) ∧ keyFor t y = true ∧ Q ((dfind ks y).getD v) M
/-- d.setdefault(k, x) -/
def setdefW (x y v : U) (M : Hm) (Q : QU) : Prop := ∃ p ks, x = .ref p ∧ M p = some (.dct false false ks) ∧ isKey y = true ∧ ks.length < LIM ∧
  (match dfind ks y with
  | some u => Q u M
  | none => Q v (um M p (.dct false false (dput ks y v))))
/-- t.index(x) of a tuple of texts -/
def tidxW (x y : U) (M : Hm) (Q : QU) : Prop := ∃ (ys : List Str) (z : Str) (j : Nat), x = .dtp (ys.map U.str) ∧ y = .str z ∧ ys[j]? = some z ∧ (∀ m, m < j → ys[m]? ≠ some z) ∧ Q (.int (j : Nat)) M
/-- a field set -/
def fput (f : Str) (v : U) : List (Str × U) → List (Str × U)
  | [] => [(f, v)]
  | (g, x) :: r => if g = f then (g, v) :: r else (g, x) :: fput f v r
/-- what an augmented store reads -/
def getW (x i : U) (M : Hm) (Q : QU) : Prop := match x with
  | .ref p => (∃ us j v, M p = some (.lst us) ∧ i = .int j ∧ atI us j = some v ∧ Q v M) ∨ ∃ z t ks v, M p = some (.dct z t ks) ∧ keyFor t i = true ∧ dfind ks i = some v ∧ Q v M
  | _ => False
def cutU {α : Type} (xs : List α) (lo hi : Option Int) : List α := (xs.drop (HT.sIx xs.length 0 lo)).take (HT.sIx xs.length xs.length hi - HT.sIx xs.length 0 lo)
def sliceW (x : U) (lo hi : Option Int) (M : Hm) (Q : QU) : Prop := match x with
  | .tup l => Q (.tup (cutU l lo hi)) M
  | .ref p => ∃ us, M p = some (.lst us) ∧ ∀ a, M a = none → Q (.ref a) (um M a (.lst (cutU us lo hi)))
  | _ => False
def setW (x i v : U) (M : Hm) (Q : Hm → Prop) : Prop := match x with
  | .ref p => (∃ us j k, M p = some (.lst us) ∧ i = .int j ∧ ixN us.length j = some k ∧ Q (um M p (.lst (us.set k v)))) ∨
      ∃ t ks, M p = some (.dct false t ks) ∧ keyFor t i = true ∧ ks.length < LIM ∧ Q (um M p (.dct false t (dput ks i v)))
  | _ => False

mutual
def pd : U → PyData
  | .non => .none
  | .bl b => .bool b
  | .int i => .int i
  | .str x => .str x
  | .tup l => .tuple (pdL l)
  | .ref _ => .none
  | .rol _ => .none
  | .dtp _ => .none
def pdL : List U → List PyData
  | [] => []
  | x :: xs => pd x :: pdL xs
end
theorem pdL_map : ∀ l : List U, pdL l = l.map pd
  | [] => rfl
  | x :: xs => by rw [pdL, pdL_map xs]; rfl
/-- what can be put in order -/
def sortOk (us : List U) : Prop := okL us = true ∧ W.AllAlike (us.map pd) ∧ W.Sortable (us.map pd) ∧ us.length ≤ LIM
def sortU (us : List U) : List U := us.mergeSort (W.dataLe false pd)
def bltW (f : Bfn) (xs : List U) (M : Hm) (Q : QU) : Prop := match f, xs with
  | .len, [.tup l] => Q (.int l.length) M
  | .len, [.str s] => s.length ≤ LIM ∧ Q (.int s.length) M
  | .len, [.ref p] => (∃ us, M p = some (.lst us) ∧ Q (.int us.length) M) ∨ ∃ ks, M p = some (.dct false false ks) ∧ Q (.int ks.length) M
  | .list, [.tup l] => ∀ a, M a = none → Q (.ref a) (um M a (.lst l))
  | .list, [.ref p] => (∃ us, M p = some (.lst us) ∧ ∀ a, M a = none → Q (.ref a) (um M a (.lst us))) ∨
      ∃ ks, M p = some (.dct false false ks) ∧ ∀ a, M a = none → Q (.ref a) (um M a (.lst (ks.map (·.1))))
  | .tuple, [.tup l] => Q (.tup l) M
  | .tupd, [.ref p] => ∃ us, M p = some (.lst us) ∧ Q (.dtp us) M
  | .len, [.dtp l] => Q (.int l.length) M
  | .list, [.dtp l] => ∀ a, M a = none → Q (.ref a) (um M a (.lst l))
  | .tuple, [.dtp l] => Q (.dtp l) M
  | .tuple, [.ref p] => ∃ us, M p = some (.lst us) ∧ Q (.tup us) M
  | .int, [.int i] => Q (.int i) M
  | .int, [.bl b] => Q (.int (if b then 1 else 0)) M
  | .abs, [.int i] => Q (.int (if i < 0 then -i else i)) M
  | .max, [.int i, .int j] => Q (.int (if j > i then j else i)) M
  | .sorted, [.ref p] => (∃ us, M p = some (.lst us) ∧ sortOk us ∧ ∀ a, M a = none → Q (.ref a) (um M a (.lst (sortU us)))) ∨ ∃ t ks, M p = some (.dct false t ks) ∧ sortOk (ks.map (·.1)) ∧ ∀ a, M a = none → Q (.ref a) (um M a (.lst (sortU (ks.map (·.1)))))
  | .sum, [.ref p] => ∃ ns : List Int, M p = some (.lst (ns.map U.int)) ∧ Q (.int ns.sum) M
  | .all, [.ref p] => ∃ bs : List Bool, M p = some (.lst (bs.map U.bl)) ∧ Q (.bl (bs.all id)) M
  | .any, [.ref p] => ∃ bs : List Bool, M p = some (.lst (bs.map U.bl)) ∧ Q (.bl (bs.any id)) M
  | .max, [.ref p] => ∃ (ns : List Int), M p = some (.lst (ns.map U.int)) ∧ 0 < ns.length ∧ ∀ m, m ∈ ns → (∀ y, y ∈ ns → y ≤ m) → Q (.int m) M
  | .min, [.int i, .int j] => Q (.int (if j < i then j else i)) M
  | .min, [.ref p] => ∃ (ns : List Int), M p = some (.lst (ns.map U.int)) ∧ 0 < ns.length ∧ ∀ m, m ∈ ns → (∀ y, y ∈ ns → m ≤ y) → Q (.int m) M
  | _, _ => False

def mthW (m : Mfn) (o : U) (xs : List U) (M : Hm) (Q : QU) : Prop := match m, o, xs with
  | .append, .ref p, [x] => ∃ us, M p = some (.lst us) ∧ us.length < LIM ∧ Q .non (um M p (.lst (us ++ [x])))
  | .extend, .ref p, [.ref q] => ∃ us ws, M p = some (.lst us) ∧ M q = some (.lst ws) ∧ us.length + ws.length ≤ LIM ∧ Q .non (um M p (.lst (us ++ ws)))
  | .pop, .ref p, [] => ∃ us x, M p = some (.lst us) ∧ us[us.length - 1]? = some x ∧ Q x (um M p (.lst us.dropLast))
  | .popAt, .ref p, [.int i] => ∃ us k x, M p = some (.lst us) ∧ us.length ≤ LIM ∧ ixN us.length i = some k ∧ us[k]? = some x ∧ Q x (um M p (.lst (us.eraseIdx k)))
  | .index, .ref p, [x] => ∃ us j, M p = some (.lst us) ∧ okU x = true ∧ okL us = true ∧ us[j]? = some x ∧ (∀ m, m < j → us[m]? ≠ some x) ∧ Q (.int (j : Nat)) M
  | .split, .str a, [.str b] => (b.length == 0) = false ∧ a.length + 2 ≤ LIM ∧ ∀ p, M p = none → Q (.ref p) (um M p (.lst ((Txt.split a b).map U.str)))
  | _, _, _ => False
/-- the receiver is of the method's type -/
def rcvW (m : Mfn) (x : U) (M : Hm) : Prop := match m with
  | .append | .extend | .pop | .popAt | .index => ∃ p us, x = .ref p ∧ M p = some (.lst us)
  | .split => ∃ s, x = .str s
  | _ => False
def isTyW (x : U) (t : String) (M : Hm) (Q : Bool → Hm → Prop) : Prop := match x with
  | .non => Q (t == "NoneType") M
  | .bl _ => Q (t == "bool" || t == "int") M
  | .int _ => Q (t == "int") M
  | .str _ => Q (t == "str") M
  | .tup _ => Q (t == "tuple") M
  | .dtp _ => Q (t == "tuple") M
  | .ref p => ∃ us, M p = some (.lst us) ∧ Q (t == "list") M
  | .rol _ => False

/-! ### loops -/
/-- the slots of these forgotten -/
def wipU (σ : SU) : List Nat → SU
  | [] => σ
  | v :: vs => (wipU σ vs).set v none
def setAll : List Nat → List U → SU → Option SU
  | [], [], σ => some σ
  | i :: is, u :: us, σ => setAll is us (σ.set i (some u))
  | _, _, _ => none
def tgW (tg : Tg) (x : U) (σ : SU) (Q : SU → Prop) : Prop := match tg with
  | .one i => Q (σ.set i (some x))
  | .many is => ∃ l σ', x = .tup l ∧ setAll is l σ = some σ' ∧ Q σ'
def forL (step : U → (SU → Hm → Prop) → SU → Hm → Prop) (g : Hm → Prop) (fin : SU → Hm → Prop) : List U → SU → Hm → Prop
  | [], σ, M => fin σ M
  | x :: xs, σ, M => step x (fun σ' M' => g M' ∧ forL step g fin xs σ' M') σ M
def compL (step : U → (Option U → Hm → Prop) → Hm → Prop) (g : Hm → Prop) (fin : List U → Hm → Prop) : List U → List U → Hm → Prop
  | [], acc, M => fin acc M
  | x :: xs, acc, M => step x (fun o M' => g M' ∧ (o.isSome = true → acc.length < LIM) ∧ compL step g fin xs (acc ++ o.toList) M') M

/-! ### expressions -/
structure Wp where
  e : WE
  t : WT
  l : WL
  /-- a row of conditions: the tests by and, by or; the values by and, by or -/
  ta : WT
  to : WT
  va : WE
  vo : WE
  i : WI
def fE : WE := fun _ _ _ => False
def fT : WT := fun _ _ _ => False
def fI : WI := fun _ _ _ => False
/-- an expression whose test is its value's truth -/
def Wp.ofE (f : WE) : Wp := ⟨f, fun σ M Q => f σ M fun x M1 => truW x M1 Q, fun _ _ _ => False, fT, fT, fE, fE, fI⟩
/-- a comparison and its like: the value a bool -/
def Wp.ofB (f : WT) : Wp := ⟨fun σ M Q => f σ M fun b M1 => Q (.bl b) M1, f, fun _ _ _ => False, fT, fT, fE, fE, fI⟩
/-- never a test -/
def Wp.noT (f : WE) : Wp := ⟨f, fT, fun _ _ _ => False, fT, fT, fE, fE, fI⟩
def Wp.ofI (f : WI) : Wp := ⟨fE, fT, fun _ _ _ => False, fT, fT, fE, fE, f⟩
def bW (f : WE) (σ : SU) (M : Hm) (Q : Bool → Hm → Prop) : Prop := f σ M fun x M1 => ∃ b, x = .bl b ∧ Q b M1
def isNil : E → Bool
  | .nil => true
  | _ => false
def partW (e : E) (f : WE) : WO := fun σ M Q => if isNil e = true then Q none M else f σ M fun x M1 => ∃ i, x = .int i ∧ Q (some i) M1

/-- how the callees keep their promises -/
abbrev CE := Nat → List U → Hm → QU → Prop

def seqI (x : U) (M : Hm) (Q : List U → (Hm → Prop) → ((Hm → Prop) → Hm → Prop) → Hm → Prop) : Prop := match x with
  | .tup l => Q l (fun _ => True) (fun P => P) M
  | .rol l => Q l (fun _ => True) (fun P => P) M
  | .dtp l => Q l (fun _ => True) (fun P => P) M
  | .ref p => ∃ us, M p = some (.lst us) ∧ Q us (fun M' => M' p = some (.lst us)) (fun P => P) M
  | _ => False
def revI (x : U) (M : Hm) (Q : List U → (Hm → Prop) → ((Hm → Prop) → Hm → Prop) → Hm → Prop) : Prop := match x with
  | .tup l => Q l.reverse (fun _ => True) (fun P => P) M
  | .dtp l => Q l.reverse (fun _ => True) (fun P => P) M
  | .ref p => ∃ us, M p = some (.lst us) ∧ Q us.reverse (fun M' => M' p = some (.lst us)) (fun P => P) M
  | _ => False
def enumU (l : List U) : List U := l.zipIdx.map fun p => .tup [.int (p.2 : Nat), p.1]
def rngU (a b : Int) : List U := (List.range (b - a).toNat).map fun i => .int (a + (i : Nat))

/-- a comprehension over what is walked -/
def compW (fi : WI) (tg : Tg) (fc : WT) (fe : WE) : WE := fun σ M Q => fi σ M fun items g ex M1 =>
  compL (fun x k M => tgW tg x (wipU σ tg.slots) fun σ2 => fc σ2 M fun b M2 => if b = true then fe σ2 M2 fun y M3 => k (some y) M3 else k none M2)
    g (fun acc M => ex (fun M => ∀ p, M p = none → Q (.ref p) (um M p (.lst acc))) M) items [] M1

def w (C : CE) : E → Wp
  | .var i => .ofE fun σ M Q => ∃ u, σ[i]? = some (some u) ∧ Q u M
  | .int i => .ofE fun _ M Q => Q (.int i) M
  | .str x => .ofE fun _ M Q => Q (.str x) M
  | .bl b => .ofE fun _ M Q => Q (.bl b) M
  | .non => .ofE fun _ M Q => Q .non M
  | .nil => ⟨fE, fT, fun _ M Q => Q [] M, fun _ M Q => Q true M, fun _ M Q => Q false M, fE, fE, fI⟩
  | .cons a b => ⟨fE, fT, fun σ M Q => (w C a).e σ M fun x M1 => (w C b).l σ M1 fun xs M2 => Q (x :: xs) M2,
      if isNil b = true then (w C a).t else fun σ M Q => (w C a).t σ M fun c M1 => if c = true then (w C b).ta σ M1 Q else Q false M1,
      if isNil b = true then (w C a).t else fun σ M Q => (w C a).t σ M fun c M1 => if c = true then Q true M1 else (w C b).to σ M1 Q,
      if isNil b = true then (w C a).e else fun σ M Q => bW (w C a).e σ M fun c M1 => if c = true then (w C b).va σ M1 Q else Q (.bl false) M1,
      if isNil b = true then (w C a).e else fun σ M Q => bW (w C a).e σ M fun c M1 => if c = true then Q (.bl true) M1 else (w C b).vo σ M1 Q, fI⟩
  | .tup es => .ofE fun σ M Q => (w C es).l σ M fun xs M1 => xs.length ≤ LIM ∧ Q (.tup xs) M1
  | .dtup es => .ofE fun σ M Q => (w C es).l σ M fun xs M1 => xs.length ≤ LIM ∧ Q (.dtp xs) M1
  | .lst es => .ofE fun σ M Q => (w C es).l σ M fun xs M1 => xs.length ≤ LIM ∧ ∀ p, M1 p = none → Q (.ref p) (um M1 p (.lst xs))
  | .dnew t => .ofE fun _ M Q => ∀ p, M p = none → Q (.ref p) (um M p (.dct false t []))
  | .bin op a b => .ofE fun σ M Q => (w C a).e σ M fun x M1 => (w C b).e σ M1 fun y M2 => binW op x y M2 Q
  | .neg a => .ofE fun σ M Q => (w C a).e σ M fun x M1 => ∃ i, x = .int i ∧ Q (.int (-i)) M1
  | .cmp op a b => .ofB fun σ M Q => (w C a).e σ M fun x M1 => (w C b).e σ M1 fun y M2 => cmpW op x y M2 Q
  | .chain o1 o2 a b c => .ofB fun σ M Q => (w C a).e σ M fun x M1 => (w C b).e σ M1 fun y M2 => cmpW o1 x y M2 fun k M3 =>
      if k = true then (w C c).e σ M3 fun z M4 => cmpW o2 y z M4 Q else Q false M3
  | .isN a => .ofB fun σ M Q => (w C a).e σ M fun x M1 => Q (decide (x = .non)) M1
  | .notN a => .ofB fun σ M Q => (w C a).e σ M fun x M1 => Q (!decide (x = .non)) M1
  | .isB neg b a => .ofB fun σ M Q => (w C a).e σ M fun x M1 => ∃ c, x = .bl c ∧ Q (if neg then !decide (c = b) else decide (c = b)) M1
  | .ands es => ⟨(w C es).va, (w C es).ta, fun _ _ _ => False, fT, fT, fE, fE, fI⟩
  | .ors es => ⟨(w C es).vo, (w C es).to, fun _ _ _ => False, fT, fT, fE, fE, fI⟩
  | .not a => ⟨fun σ M Q => bW (w C a).e σ M fun b M1 => Q (.bl (!b)) M1, fun σ M Q => (w C a).t σ M fun b M1 => Q (!b) M1, fun _ _ _ => False, fT, fT, fE, fE, fI⟩
  | .ite c a b => .noT fun σ M Q => (w C c).t σ M fun k M1 => if k = true then (w C a).e σ M1 Q else (w C b).e σ M1 Q
  | .ix a i => .ofE fun σ M Q => (w C a).e σ M fun x M1 => (w C i).e σ M1 fun y M2 => ixW x y M2 Q
  | .dget o k d => .ofE fun σ M Q => (w C o).e σ M fun x M1 => isDW x M1 ∧ (w C k).e σ M1 fun y M2 => (w C d).e σ M2 fun v M3 => dgetW x y v M3 Q
  | .slice a lo hi => .ofE fun σ M Q => (w C a).e σ M fun x M1 => partW lo (w C lo).e σ M1 fun l M2 => partW hi (w C hi).e σ M2 fun h M3 => sliceW x l h M3 Q
  | .call f es => .ofE fun σ M Q => (w C es).l σ M fun xs M1 => C f xs M1 Q
  | .blt f es => .ofE fun σ M Q => (w C es).l σ M fun xs M1 => bltW f xs M1 Q
  | .mth m o es => .ofE fun σ M Q => (w C o).e σ M fun x M1 => rcvW m x M1 ∧ (w C es).l σ M1 fun xs M2 => mthW m x xs M2 Q
  | .isinst a t => .ofB fun σ M Q => (w C a).e σ M fun x M1 => isTyW x t M1 Q
  | .comp _ tg it c elt => .ofE (compW (w C it).i tg (if isNil c = true then fun _ M Q => Q true M else (w C c).t) (w C elt).e)
  | .fld f o => .ofE fun σ M Q => (w C o).e σ M fun x M1 => ∃ p c fs v, x = .ref p ∧ M1 p = some (.obj c fs) ∧ fs.lookup f = some v ∧ Q v M1
  | .meth c m f o es => .ofE fun σ M Q => (w C o).e σ M fun x M1 => (∃ p fs, x = .ref p ∧ M1 p = some (.obj c fs) ∧ fs.lookup m = none) ∧ (w C es).l σ M1 fun xs M2 => C f (x :: xs) M2 Q
  | .make c f es => .ofE fun σ M Q => (w C es).l σ M fun xs M1 => ∀ p, M1 p = none → C f (.ref p :: xs) (um M1 p (.obj c [])) fun u M2 => u = .non ∧ Q (.ref p) M2
  | .prop c _ f o => .ofE fun σ M Q => (w C o).e σ M fun x M1 => (∃ p fs, x = .ref p ∧ M1 p = some (.obj c fs)) ∧ C f [x] M1 Q
  | .setdef o k d => .ofE fun σ M Q => (w C o).e σ M fun x M1 => isDW x M1 ∧ (w C k).e σ M1 fun y M2 => (w C d).e σ M2 fun v M3 => setdefW x y v M3 Q
  | .lrng t a b => .ofE fun σ M Q => partW a (w C a).e σ M fun lo M1 => (w C b).e σ M1 fun y M2 => ∃ n, y = .int n ∧ n ≤ LIM ∧ -LIM ≤ n ∧ lo.getD 0 ≤ LIM ∧ -LIM ≤ lo.getD 0 ∧
      if t = true then Q (.tup (rngU (lo.getD 0) n)) M2 else ∀ p, M2 p = none → Q (.ref p) (um M2 p (.lst (rngU (lo.getD 0) n)))
  | .tidx o e => .ofE fun σ M Q => (w C o).e σ M fun x M1 => (∃ l, x = .dtp l) ∧ (w C e).e σ M1 fun y M2 => tidxW x y M2 Q
  | .gint _ i => .ofE fun _ M Q => Q (.int i) M
  | .gstr _ s => .ofE fun _ M Q => Q (.str s) M
  | .iSeq a => .ofI fun σ M Q => (w C a).e σ M fun x M1 => seqI x M1 Q
  | .iRange a => .ofI fun σ M Q => (w C a).e σ M fun x M1 => ∃ n, x = .int n ∧ n ≤ LIM ∧ -LIM ≤ n ∧ Q (rngU 0 n) (fun _ => True) (fun P => P) M1
  | .iRange2 a b => .ofI fun σ M Q => (w C a).e σ M fun x M1 => (w C b).e σ M1 fun y M2 => ∃ m n, x = .int m ∧ y = .int n ∧ -LIM ≤ m ∧ m ≤ LIM ∧ n ≤ LIM ∧ -LIM ≤ n ∧ Q (rngU m n) (fun _ => True) (fun P => P) M2
  | .iRev a => .ofI fun σ M Q => (w C a).e σ M fun x M1 => revI x M1 Q
  | .iEnum a => .ofI fun σ M Q => (w C a).e σ M fun x M1 => seqI x M1 fun us g ex M2 => Q (enumU us) g ex M2
  | .iKeys a => .ofI fun σ M Q => ∃ i d t ks, a = .var i ∧ σ[i]? = some (some (.ref d)) ∧ M d = some (.dct false t ks) ∧
      Q (ks.map (·.1)) (fun M' => M' d = some (.dct true t ks)) (fun P M' => M' d = some (.dct true t ks) ∧ P (um M' d (.dct false t ks))) (um M d (.dct true t ks))

/-! ### statements -/
structure EndsU where
  nx : SU → Hm → Prop
  rt : QU
  bk : SU → Hm → Prop := fun _ _ => False
  ct : SU → Hm → Prop := fun _ _ => False

def wS (C : CE) : S → EndsU → SU → Hm → Prop
  | .skip, D, σ, M => D.nx σ M
  | .seq a b, D, σ, M => wS C a { D with nx := wS C b D } σ M
  | .asg i e, D, σ, M => (w C e).e σ M fun x M1 => D.nx (σ.set i (some x)) M1
  | .asgT is e, D, σ, M => (w C e).e σ M fun x M1 => ∃ l σ', x = .tup l ∧ setAll is l σ = some σ' ∧ D.nx σ' M1
  | .par i j a b, D, σ, M => (w C a).e σ M fun x M1 => (w C b).e σ M1 fun y M2 => D.nx ((σ.set i (some x)).set j (some y)) M2
  | .setF c f o e, D, σ, M => (w C e).e σ M fun v M1 => (w C o).e σ M1 fun x M2 => ∃ p fs, x = .ref p ∧ M2 p = some (.obj c fs) ∧ fs.length < 1000 ∧ D.nx σ (um M2 p (.obj c (fput f v fs)))
  | .setIx o i e, D, σ, M => (w C e).e σ M fun v M1 => (w C o).e σ M1 fun x M2 => (w C i).e σ M2 fun y M3 => setW x y v M3 (D.nx σ)
  | .augV i op e, D, σ, M => ∃ x, σ[i]? = some (some x) ∧ (w C e).e σ M fun y M1 => ∃ a b, x = .int a ∧ y = .int b ∧ binW op x y M1 fun z M2 => D.nx (σ.set i (some z)) M2
  | .augIx o i op e, D, σ, M => (w C o).e σ M fun x M1 => (w C i).e σ M1 fun y M2 => getW x y M2 fun v M3 => (w C e).e σ M3 fun z M4 => ∃ a b, v = .int a ∧ z = .int b ∧ binW op v z M4 fun r M5 => setW x y r M5 (D.nx σ)
  | .ifs c a b, D, σ, M => (w C c).t σ M fun k M1 => if k = true then wS C a D σ M1 else wS C b D σ M1
  | .for_ tg it b, D, σ, M => (w C it).i σ M fun items g ex M1 =>
      forL (fun x nx σ M => tgW tg x σ fun σ2 => wS C b ⟨nx, fun u M => ex (D.rt u) M, fun σ M => ex (D.nx σ) M, nx⟩ σ2 M) g (fun σ M => ex (D.nx σ) M) items σ M1
  | .whl c b, D, σ, M => ∃ W : Nat → SU → Hm → Prop, (∃ m, W m σ M) ∧ ∀ m σ M, W m σ M → (w C c).t σ M fun k M1 =>
      if k = true then wS C b ⟨fun σ' M' => ∃ m', m' < m ∧ W m' σ' M', D.rt, D.nx, fun σ' M' => ∃ m', m' < m ∧ W m' σ' M'⟩ σ M1 else D.nx σ M1
  | .ret e, D, σ, M => (w C e).e σ M D.rt
  | .retN, D, _, M => D.rt .non M
  | .brk, D, σ, M => D.bk σ M
  | .cnt, D, σ, M => D.ct σ M
  | .expr e, D, σ, M => (w C e).e σ M fun _ M1 => D.nx σ M1
  | .nvr, _, _, _ => False

/-- one def: its name, its parameters, all its names by slot, its body; a method's: its class, its name in full, whether it is a property's -/
structure Df where
  name : Str
  ps : List Str
  N : List Str
  b : S
  cls : Option Str := none
  qual : Str := name
  prp : Bool := false
/-- one class: its name, its __init__, its fields, its methods, its properties -/
structure Cd where
  name : Str
  init : Option Nat
  flds : List Str
  mets : List (Str × Nat)
  prps : List (Str × Nat)
def startU (n : Nat) (us : List U) : SU := us.map some ++ List.replicate (n - us.length) none
/-- what is forgotten does not harm -/
def Sub (M' M : Hm) : Prop := ∀ a o, M' a = some o → M a = some o
/-- the promises at depth k -/
def Cs (T : List Df) : Nat → CE
  | 0 => fun _ _ _ _ => False
  | k + 1 => fun f us M Q => ∃ d, T[f]? = some d ∧ us.length = d.ps.length ∧
      wS (Cs T k) d.b ⟨fun _ M' => ∃ M'', Sub M'' M' ∧ Q .non M'', fun u M' => ∃ M'', Sub M'' M' ∧ Q u M'', fun _ _ => False, fun _ _ => False⟩ (startU d.N.length us) M
end Pl

set_option maxHeartbeats 4000000
/-! operations by values keep what they are said to do -/
namespace Pl
open PySem L2
theorem lim_line : LIM < sizeLine := by rw [sizeLine_eq]; decide
theorem le_line {n : Nat} (h : n ≤ LIM) : n ≤ sizeLine := Nat.le_trans h (Nat.le_of_lt lim_line)
theorem lt_line {n : Nat} (h : n < LIM) : n < sizeLine := Nat.lt_trans h lim_line

section
variable {K : Fg} {H H' : Hp} {M M' : Hm}
theorem RelL.length {vs : List V} {us : List U} (h : RelL K H vs us) : vs.length = us.length := by
  induction vs generalizing us with
  | nil => cases h; rfl
  | cons v vs ih => cases h with
    | cons a b => rw [List.length_cons, List.length_cons, ih b]
theorem RelL.get {vs : List V} {us : List U} {i : Nat} {u : U} (h : RelL K H vs us) (e : us[i]? = some u) : ∃ v, vs[i]? = some v ∧ Rel K H v u := by
  induction vs generalizing us i with
  | nil => cases h; simp at e
  | cons v vs ih => cases h with
    | cons a b => cases i with
      | zero => simp at e; subst e; exact ⟨v, rfl, a⟩
      | succ i => obtain ⟨x, q, r⟩ := ih b (by simpa using e); exact ⟨x, by simpa using q, r⟩
theorem RelL.getV {vs : List V} {us : List U} {i : Nat} {v : V} (h : RelL K H vs us) (e : vs[i]? = some v) : ∃ u, us[i]? = some u ∧ Rel K H v u := by
  induction vs generalizing us i with
  | nil => simp at e
  | cons y vs ih => cases h with
    | cons a b => cases i with
      | zero => simp at e; subst e; exact ⟨_, rfl, a⟩
      | succ i => obtain ⟨x, q, r⟩ := ih b (by simpa using e); exact ⟨x, by simpa using q, r⟩
theorem RelL.append {vs ws : List V} {us xs : List U} (h : RelL K H vs us) (k : RelL K H ws xs) : RelL K H (vs ++ ws) (us ++ xs) := by
  induction vs generalizing us with
  | nil => cases h; exact k
  | cons v vs ih => cases h with
    | cons a b => exact .cons a (ih b)
theorem RelL.take {vs : List V} {us : List U} (n : Nat) (h : RelL K H vs us) : RelL K H (vs.take n) (us.take n) := by
  induction n generalizing vs us with
  | zero => exact .nil
  | succ n ih => cases h with
    | nil => exact .nil
    | cons a b => exact .cons a (ih b)
theorem RelL.drop {vs : List V} {us : List U} (n : Nat) (h : RelL K H vs us) : RelL K H (vs.drop n) (us.drop n) := by
  induction n generalizing vs us with
  | zero => exact h
  | succ n ih => cases h with
    | nil => exact .nil
    | cons a b => exact ih b
theorem RelL.set {vs : List V} {us : List U} {v : V} {u : U} (k : Nat) (r : Rel K H v u) (h : RelL K H vs us) : RelL K H (vs.set k v) (us.set k u) := by
  induction k generalizing vs us with
  | zero => cases h with
    | nil => exact .nil
    | cons a b => exact .cons r b
  | succ n ih => cases h with
    | nil => exact .nil
    | cons a b => exact .cons a (ih b)
theorem RelL.eraseIdx {vs : List V} {us : List U} (k : Nat) (h : RelL K H vs us) : RelL K H (vs.eraseIdx k) (us.eraseIdx k) := by
  induction k generalizing vs us with
  | zero => cases h with
    | nil => exact .nil
    | cons a b => exact b
  | succ n ih => cases h with
    | nil => exact .nil
    | cons a b => exact .cons a (ih b)
theorem RelL.dropLast {vs : List V} {us : List U} (h : RelL K H vs us) : RelL K H vs.dropLast us.dropLast := by
  rw [List.dropLast_eq_take, List.dropLast_eq_take, h.length]
  exact h.take _
theorem RelL.rep {vs : List V} {us : List U} (h : RelL K H vs us) : ∀ n : Nat, RelL K H (List.replicate n vs).flatten (List.replicate n us).flatten
  | 0 => .nil
  | n + 1 => by
    rw [List.replicate_succ, List.replicate_succ, List.flatten_cons, List.flatten_cons]
    exact h.append (RelL.rep h n)
theorem RelL.strs : ∀ xs : List Str, RelL K H (xs.map V.str) (xs.map U.str)
  | [] => .nil
  | x :: xs => .cons (.str x) (RelL.strs xs)
theorem RelL.nil_iff {vs : List V} {us : List U} (h : RelL K H vs us) : vs = [] ↔ us = [] := by
  cases h <;> simp
theorem RelL.isEmpty {vs : List V} {us : List U} (h : RelL K H vs us) : vs.isEmpty = us.isEmpty := by
  cases h <;> rfl

/-! ### how the heap grows -/
theorem Paired.mapR {α β : Type} {F G : α → β → Prop} {xs : List α} {ys : List β} (h : Paired F xs ys) (k : ∀ a b, F a b → G a b) : Paired G xs ys := by
  induction h with
  | nil => exact .nil
  | cons a _ ih => exact .cons (k _ _ a) ih
theorem OR.stp (S : Sim K H M) (t : Stp H M H' M') {a : Addr} {o : MO} (e : H' a = H a) (h : OR K H a o) : OR K H' a o := by
  cases o with
  | lst us =>
    obtain ⟨vs, q, r⟩ := h
    exact ⟨vs, by rw [e]; exact q, r.stp S t⟩
  | dct z tt ks =>
    cases tt with
    | false => obtain ⟨kvs, q, r⟩ := h; exact ⟨kvs, by rw [e]; exact q, Paired.mapR r fun p q x => ⟨x.1, x.2.stp S t⟩⟩
    | true => obtain ⟨kvs, q, r⟩ := h; exact ⟨kvs, by rw [e]; exact q, Paired.mapR r fun p q x => ⟨x.1, x.2.stp S t⟩⟩
  | obj c fs => obtain ⟨dx, vs, q, r, r2⟩ := h; exact ⟨dx, vs, by rw [e]; exact q, Paired.mapR r fun p q x => ⟨x.1, x.2.stp S t⟩, r2⟩
theorem Sim.to (S : Sim K H M) (t : Stp H M H' M') (h : ∀ a o, M' a = some o → (M a = some o ∧ H' a = H a) ∨ OR K H' a o) : Sim K H' M' := fun a o e => by
  rcases h a o e with ⟨e1, e2⟩ | q
  · exact (S a o e1).stp S t e2
  · exact q
theorem Stp.new {p : Addr} {o : HO} {m : MO} (S : Sim K H M) (hp : H p = none) : Stp H M (upd H p o) (um M p m) :=
  ⟨fun a x h n =>
    have ne : a ≠ p := ne_of_none h hp
    ⟨by rw [upd_ne ne]; exact h, by rw [um_ne ne]; exact n⟩, fun a t ks e => by
    obtain ⟨x, h⟩ := (S a _ e).has
    have ne : a ≠ p := ne_of_none h hp
    exact ⟨upd_ne ne, .inl (um_ne ne)⟩⟩
theorem Stp.newT {p : Addr} {o : HO} (S : Sim K H M) (hp : H p = none) : Stp H M (upd H p o) M :=
  ⟨fun a x h n => ⟨by rw [upd_ne (ne_of_none h hp)]; exact h, n⟩, fun a t ks e => by
    obtain ⟨x, h⟩ := (S a _ e).has
    exact ⟨upd_ne (ne_of_none h hp), .inl rfl⟩⟩
def unlocked : MO → Bool
  | .dct true _ _ => false
  | _ => true
theorem Stp.mut {p : Addr} {o : HO} {m m' : MO} (hp : M p = some m') (hu : unlocked m' = true := by rfl) : Stp H M (upd H p o) (um M p m) :=
  ⟨fun a x h n =>
    have ne : a ≠ p := fun e => by rw [e, hp] at n; cases n
    ⟨by rw [upd_ne ne]; exact h, by rw [um_ne ne]; exact n⟩, fun a t ks e => by
    have ne : a ≠ p := fun z => by
      rw [z, hp] at e
      cases e
      cases hu
    exact ⟨upd_ne ne, .inl (um_ne ne)⟩⟩
theorem Sim.new (S : Sim K H M) {p : Addr} {o : HO} {m : MO} (hp : H p = none) (new : OR K (upd H p o) p m) : Sim K (upd H p o) (um M p m) :=
  S.to (Stp.new S hp) fun a x e => by
    by_cases h : a = p
    · subst h
      rw [um_same] at e
      cases e
      exact .inr new
    · rw [um_ne h] at e
      exact .inl ⟨e, upd_ne h⟩
theorem Sim.newT (S : Sim K H M) {p : Addr} {vs : List V} (hp : H p = none) : Sim K (upd H p (.tup vs)) M :=
  S.to (Stp.newT S hp) fun a x e => .inl ⟨e, upd_ne fun z => by
    have q := S.fr hp
    rw [z, q] at e
    cases e⟩
theorem Sim.mut (S : Sim K H M) {p : Addr} {o : HO} {m m' : MO} (hp : M p = some m') (hu : unlocked m' = true) (new : OR K (upd H p o) p m) : Sim K (upd H p o) (um M p m) :=
  S.to (Stp.mut hp hu) fun a x e => by
    by_cases h : a = p
    · subst h
      rw [um_same] at e
      cases e
      exact .inr new
    · rw [um_ne h] at e
      exact .inl ⟨e, upd_ne h⟩
theorem Sim.sub (S : Sim K H M) (s : Sub M' M) : Sim K H M' := fun a o e => S a o (s a o e)
theorem Stp.sub (s : Sub M' M) : Stp H M H M' := ⟨fun a o h n => ⟨h, by
  cases e : M' a with
  | none => rfl
  | some x => rw [s a x e] at n; cases n⟩, fun a t ks e => ⟨rfl, by
  cases e2 : M' a with
  | none => exact .inr rfl
  | some x => exact .inl (s a x e2).symm⟩⟩
end

/-! ### continuations -/
def Cont (K : Fg) (H : Hp) (M : Hm) (Qu : QU) (Q : VK) : Prop := ∀ v H' u M', Stp H M H' M' → Sim K H' M' → Rel K H' v u → Qu u M' → Q v H'
def ContB (K : Fg) (H : Hp) (M : Hm) (Qu : Bool → Hm → Prop) (Q : Bool → Hp → Prop) : Prop := ∀ b H' M', Stp H M H' M' → Sim K H' M' → Qu b M' → Q b H'
def ContL (K : Fg) (H : Hp) (M : Hm) (Qu : List U → Hm → Prop) (Q : List V → Hp → Prop) : Prop := ∀ v H' u M', Stp H M H' M' → Sim K H' M' → RelL K H' v u → Qu u M' → Q v H'
section
variable {K : Fg} {H H' : Hp} {M M' : Hm} {Qu : QU} {Q : VK}
theorem Cont.at_ (c : Cont K H M Qu Q) (S : Sim K H M) {v : V} {u : U} (r : Rel K H v u) (q : Qu u M) : Q v H := c v H u M (Stp.refl H M) S r q
theorem Cont.bl (c : Cont K H M (fun u M => ∃ b, u = .bl b ∧ Qu u M) Q) : True := trivial
theorem Cont.tr {H1 : Hp} {M1 : Hm} (S0 : Sim K H M) (t : Stp H M H1 M1) (c : Cont K H M Qu Q) : Cont K H1 M1 Qu Q := fun v H' u M' t' S r q => c v H' u M' (t.trans S0 t') S r q
theorem ContB.tr {H1 : Hp} {M1 : Hm} {Qu : Bool → Hm → Prop} {Q : Bool → Hp → Prop} (S0 : Sim K H M) (t : Stp H M H1 M1) (c : ContB K H M Qu Q) : ContB K H1 M1 Qu Q := fun v H' M' t' S q => c v H' M' (t.trans S0 t') S q
theorem ContL.tr {H1 : Hp} {M1 : Hm} {Qu : List U → Hm → Prop} {Q : List V → Hp → Prop} (S0 : Sim K H M) (t : Stp H M H1 M1) (c : ContL K H M Qu Q) : ContL K H1 M1 Qu Q := fun v H' u M' t' S r q => c v H' u M' (t.trans S0 t') S r q
/-- a new tuple -/
theorem Cont.tup (c : Cont K H M Qu Q) (S : Sim K H M) {vs : List V} {us : List U} (r : RelL K H vs us) (q : Qu (.tup us) M) {p : Addr} (hp : H p = none) : Q (.ref p) (upd H p (.tup vs)) :=
  c _ _ (.tup us) M (Stp.newT S hp) (S.newT hp) (.tup upd_same (r.stp S (Stp.newT S hp))) q
/-- a new list -/
theorem Cont.lst (c : Cont K H M Qu Q) (S : Sim K H M) {vs : List V} {us : List U} (r : RelL K H vs us) (q : ∀ p, M p = none → Qu (.ref p) (um M p (.lst us))) {p : Addr} (hp : H p = none) : Q (.ref p) (upd H p (.lst vs)) :=
  c _ _ (.ref p) (um M p (.lst us)) (Stp.new S hp) (S.new (m := .lst us) hp ⟨vs, upd_same, r.stp S (Stp.new (m := .lst us) S hp)⟩) (.ref p) (q p (S.fr hp))
/-- a list changed -/
theorem Cont.mutL (c : Cont K H M Qu Q) (S : Sim K H M) {p : Addr} {ws : List U} {vs : List V} {us : List U} (hm : M p = some (.lst ws)) (r : RelL K H vs us) {v : V} {u : U} (rv : Rel K H v u) (q : Qu u (um M p (.lst us))) : Q v (upd H p (.lst vs)) :=
  c _ _ u (um M p (.lst us)) (Stp.mut hm) (S.mut (m := .lst us) hm rfl ⟨vs, upd_same, r.stp S (Stp.mut (m := .lst us) hm)⟩) (rv.stp S (Stp.mut (m := .lst us) hm)) q
theorem Rel.ref_lst {S : Sim K H M} {v : V} {p : Addr} (r : Rel K H v (.ref p)) : v = .ref p := by cases r; rfl
end
/-- the reading of a two-place operation -/
def R2s (K : Fg) (f : U → U → Hm → QU → Prop) : R2 := fun x y H Q => ∃ a b M Qu, Sim K H M ∧ Rel K H x a ∧ Rel K H y b ∧ f a b M Qu ∧ Cont K H M Qu Q
def bopOf : Bop → Operator
  | .add => .Add | .sub => .Sub | .mul => .Mult | .fdiv => .FloorDiv | .mod => .Mod | .pow => .Pow | .shl => .LShift | .shr => .RShift | .band => .BitAnd | .bor => .BitOr
def copOf : Cop → CmpOp
  | .eq => .Eq | .ne => .NotEq | .lt => .Lt | .le => .LtE | .gt => .Gt | .ge => .GtE | .isin => .In | .notin => .NotIn
section
variable {X : Cx}
theorem op_binS (op : Bop) : OpR X (binaryOp (bopOf op)) (R2s X.K (binW op)) := by
  intro pins s σ H x y v u Q I rx ry h
  obtain ⟨a, b, M, Qu, S, ra, rb, hf, c⟩ := h
  have int2 : ∀ {i j : Int}, a = .int i → b = .int j → x = .int i ∧ y = .int j := fun {i j} e1 e2 => by
    subst e1 e2
    cases ra
    cases rb
    exact ⟨rfl, rfl⟩
  unfold binW at hf
  split at hf
  · cases ra; cases rb; exact op_add pins s σ H _ _ v u Q I rx ry ⟨_, _, rfl, rfl, c.at_ S (.int _) hf⟩
  · cases ra; cases rb; exact op_sub pins s σ H _ _ v u Q I rx ry ⟨_, _, rfl, rfl, c.at_ S (.int _) hf⟩
  · cases ra; cases rb; exact op_mul pins s σ H _ _ v u Q I rx ry ⟨_, _, rfl, rfl, hf.1, c.at_ S (.int _) hf.2⟩
  · cases ra; cases rb; exact op_fdiv pins s σ H _ _ v u Q I rx ry ⟨_, _, rfl, rfl, hf.1, c.at_ S (.int _) hf.2⟩
  · cases ra; cases rb; exact op_mod pins s σ H _ _ v u Q I rx ry ⟨_, _, rfl, rfl, hf.1, c.at_ S (.int _) hf.2⟩
  · cases ra; cases rb; exact op_pow pins s σ H _ _ v u Q I rx ry ⟨_, _, rfl, rfl, hf.1, c.at_ S (.int _) hf.2⟩
  · cases ra; cases rb; exact op_shl pins s σ H _ _ v u Q I rx ry ⟨_, _, rfl, rfl, hf.1, c.at_ S (.int _) hf.2⟩
  · cases ra; cases rb; exact op_shr pins s σ H _ _ v u Q I rx ry ⟨_, _, rfl, rfl, hf.1, c.at_ S (.int _) hf.2⟩
  · cases ra; cases rb; exact op_and pins s σ H _ _ v u Q I rx ry ⟨_, _, rfl, rfl, c.at_ S (.int _) hf⟩
  · cases ra; cases rb; exact op_or pins s σ H _ _ v u Q I rx ry ⟨_, _, rfl, rfl, c.at_ S (.int _) hf⟩
  · cases ra; cases rb; exact op_add_str pins s σ H _ _ v u Q I rx ry ⟨_, _, rfl, rfl, le_line hf.1, c.at_ S (.str _) hf.2⟩
  · cases ra with
    | tup t1 r1 =>
      cases rb with
      | tup t2 r2 =>
        rename_i la lb p vs q ws
        refine op_catA pins s σ H _ _ v u Q I rx ry ⟨p, q, vs, ws, rfl, rfl, t1.sq, t2.sq, by rw [r1.length, r2.length]; exact le_line hf.1, fun e => ?_, fun _ e => ?_, fun _ _ n hn => c.tup S (r1.append r2) hf.2 hn⟩
        · have e1 : la = [] := r1.nil_iff.mp e
          have q2 := hf.2
          rw [e1, List.nil_append] at q2
          exact c.at_ S (.tup t2 r2) q2
        · have e1 : lb = [] := r2.nil_iff.mp e
          have q2 := hf.2
          rw [e1, List.append_nil] at q2
          exact c.at_ S (.tup t1 r1) q2
  · obtain ⟨us, h1, k1, k2, hl, hq⟩ := hf
    obtain ⟨vs, g1, r1⟩ := S _ _ h1
    cases ra; cases rb
    refine op_rep pins s σ H _ _ v u Q I rx ry ⟨_, _, vs, rfl, rfl, g1, by unfold LIM at k1; omega, by unfold LIM at k2; omega, by rw [r1.length]; exact le_line hl, fun n hn => c.lst S (RelL.rep r1 _) hq hn⟩
  · obtain ⟨us, ws, h1, h2, hl, hq⟩ := hf
    obtain ⟨vs, g1, r1⟩ := S _ _ h1
    obtain ⟨xs, g2, r2⟩ := S _ _ h2
    cases ra; cases rb
    exact op_cat pins s σ H _ _ v u Q I rx ry ⟨_, _, _, _, rfl, rfl, g1, g2, by rw [r1.length, r2.length]; exact le_line hl, fun n hn => c.lst S (r1.append r2) hq hn⟩
  · exact hf.elim
end
end Pl

set_option maxHeartbeats 4000000
/-! comparisons, truth, subscripts, stores, built-ins by values -/
namespace Pl
open PySem L2
section
variable {K : Fg} {H H' : Hp} {M M' : Hm}
mutual
theorem ok_dp : ∀ (n : Nat) (u : U) (v : V), u.ok n = true → Rel K H v u → Dp K H v (pd u)
  | _, .non, _, _, r => by cases r; exact .non
  | _, .int i, _, _, r => by cases r; exact .int i
  | _, .str x, _, _, r => by cases r; exact .str x
  | n + 1, .tup l, _, h, r => by
    cases r with
    | tup t rl => exact .tup t.sq (ok_dpL n l _ (by simpa [U.ok] using h) rl)
  | 0, .tup l, _, h, r => by simp [U.ok] at h
  | _, .bl _, _, h, _ => by simp [U.ok] at h
  | _, .ref _, _, h, _ => by simp [U.ok] at h
  | _, .rol _, _, h, _ => by simp [U.ok] at h
  | _, .dtp _, _, h, _ => by simp [U.ok] at h
theorem ok_dpL : ∀ (n : Nat) (l : List U) (vs : List V), (∀ x ∈ l, x.ok n = true) → RelL K H vs l → DpAll K H vs (pdL l)
  | _, [], _, _, r => by cases r; exact .nil
  | n, x :: xs, _, h, r => by
    cases r with
    | cons a b => exact .cons (ok_dp n x _ (h x List.mem_cons_self) a) (ok_dpL n xs _ (fun y hy => h y (List.mem_cons_of_mem _ hy)) b)
end
end
mutual
theorem ok_lay : ∀ (n : Nat) (u : U), u.ok n = true → (pd u).canLay0 = true ∧ (pd u).depth ≤ n
  | _, .non, _ => ⟨by simp [pd, PyData.canLay0], by simp [pd, PyData.depth]⟩
  | _, .int i, _ => ⟨by simp [pd, PyData.canLay0], by simp [pd, PyData.depth]⟩
  | _, .str x, h => ⟨by
    have q : okS x = true := by simpa [U.ok] using h
    simp only [pd, PyData.canLay0]
    exact q, by simp [pd, PyData.depth]⟩
  | n + 1, .tup l, h => by
    obtain ⟨a, b⟩ := ok_layL n l (by simpa [U.ok] using h)
    refine ⟨?_, ?_⟩
    · simp only [pd, PyData.canLay0]; exact a
    · simp only [pd, PyData.depth]; omega
  | 0, .tup l, h => by simp [U.ok] at h
  | _, .bl _, h => by simp [U.ok] at h
  | _, .ref _, h => by simp [U.ok] at h
  | _, .rol _, h => by simp [U.ok] at h
  | _, .dtp _, h => by simp [U.ok] at h
theorem ok_layL : ∀ (n : Nat) (l : List U), (∀ x ∈ l, x.ok n = true) → PyData.canLayAll0 (pdL l) = true ∧ PyData.depthAll (pdL l) ≤ n
  | _, [], _ => ⟨by simp [pdL, PyData.canLayAll0], by simp [pdL, PyData.depthAll]⟩
  | n, x :: xs, h => by
    obtain ⟨a, b⟩ := ok_lay n x (h x List.mem_cons_self)
    obtain ⟨c, d⟩ := ok_layL n xs (fun y hy => h y (List.mem_cons_of_mem _ hy))
    refine ⟨?_, ?_⟩
    · simp only [pdL, PyData.canLayAll0, a, c, Bool.and_self]
    · simp only [pdL, PyData.depthAll]; omega
end
mutual
theorem ok_eqv : ∀ (n : Nat) (u : U) (m : Nat) (x : U), u.ok n = true → x.ok m = true → PyData.eqv (pd u) (pd x) = decide (u = x)
  | _, .non, m, x, _, h => by cases x <;> first | (simp [pd, PyData.eqv]; done) | simp [U.ok] at h
  | _, .int i, m, x, _, h => by cases x <;> first | (simp [pd, PyData.eqv, Bool.beq_eq_decide_eq]; done) | simp [U.ok] at h
  | _, .str s, m, x, _, h => by cases x <;> first | (simp [pd, PyData.eqv, Bool.beq_eq_decide_eq]; done) | simp [U.ok] at h
  | n + 1, .tup l, m, x, g, h => by
    cases x with
    | tup l2 =>
      cases m with
      | zero => simp [U.ok] at h
      | succ m =>
        have q := ok_eqvL n l m l2 (by simpa [U.ok] using g) (by simpa [U.ok] using h)
        simp only [pd, PyData.eqv, q, U.tup.injEq]
    | bl _ => simp [U.ok] at h
    | ref _ => simp [U.ok] at h
    | rol _ => simp [U.ok] at h
    | dtp _ => simp [U.ok] at h
    | _ => simp [pd, PyData.eqv]
  | 0, .tup l, _, _, h, _ => by simp [U.ok] at h
  | _, .bl _, _, _, h, _ => by simp [U.ok] at h
  | _, .ref _, _, _, h, _ => by simp [U.ok] at h
  | _, .rol _, _, _, h, _ => by simp [U.ok] at h
  | _, .dtp _, _, _, h, _ => by simp [U.ok] at h
theorem ok_eqvL : ∀ (n : Nat) (l : List U) (m : Nat) (l2 : List U), (∀ x ∈ l, x.ok n = true) → (∀ x ∈ l2, x.ok m = true) → PyData.eqvAll (pdL l) (pdL l2) = decide (l = l2)
  | _, [], _, [], _, _ => by simp [pdL, PyData.eqvAll]
  | _, [], _, _ :: _, _, _ => by simp [pdL, PyData.eqvAll]
  | _, _ :: _, _, [], _, _ => by simp [pdL, PyData.eqvAll]
  | n, x :: xs, m, y :: ys, g, h => by
    have a := ok_eqv n x m y (g x List.mem_cons_self) (h y List.mem_cons_self)
    have b := ok_eqvL n xs m ys (fun z hz => g z (List.mem_cons_of_mem _ hz)) (fun z hz => h z (List.mem_cons_of_mem _ hz))
    simp only [pdL, PyData.eqvAll, a, b, List.cons.injEq, Bool.decide_and]
end
theorem ok_shaped {n : Nat} {u : U} (h : u.ok n = true) (hn : n ≤ 64) : SeqAt.shaped (pd u) = true := by
  obtain ⟨a, b⟩ := ok_lay n u h
  unfold SeqAt.shaped
  rw [a, Bool.true_and]
  exact decide_eq_true (by omega)
theorem okL_all {l : List U} (h : okL l = true) : ∀ x ∈ l, x.ok 59 = true := List.all_eq_true.mp h
theorem okL_shaped {l : List U} (h : okL l = true) : SeqAt.shaped (.list (pdL l)) = true := by
  obtain ⟨a, b⟩ := ok_layL 59 l (okL_all h)
  unfold SeqAt.shaped
  have e : (PyData.list (pdL l)).canLay0 = true := by simp only [PyData.canLay0]; exact a
  rw [e, Bool.true_and]
  exact decide_eq_true (by simp only [PyData.depth]; omega)
theorem any_eqv {x : U} (hx : okU x = true) : ∀ (l : List U), (∀ y ∈ l, y.ok 59 = true) → ((pdL l).any fun z => PyData.eqv z (pd x)) = decide (x ∈ l)
  | [], _ => by simp [pdL]
  | y :: ys, h => by
    have a := ok_eqv 59 y 60 x (h y List.mem_cons_self) hx
    have b := any_eqv hx ys fun z hz => h z (List.mem_cons_of_mem _ hz)
    rw [pdL, List.any_cons, a, b, ← Bool.decide_or]
    exact decide_eq_decide.mpr ⟨fun z => z.elim (fun e => by rw [e]; exact List.mem_cons_self) (List.mem_cons_of_mem _), fun z => (List.mem_cons.mp z).elim (fun e => .inl e.symm) .inr⟩

/-! ### keys -/
section
variable {K : Fg} {H H' : Hp} {M M' : Hm}
theorem isKey_of {u : U} {v : V} (h : isKey u = true) (r : Rel K H v u) : ∃ k : Key, u = keyU k ∧ v = kV k := by
  cases r with
  | int i => exact ⟨.inl i, rfl, rfl⟩
  | str x => exact ⟨.inr x, rfl, rfl⟩
  | _ => cases h
theorem isKeys_of : ∀ {us : List U} {vs : List V}, us.all isKey = true → RelL K H vs us → ∃ ks : List Key, us = ks.map keyU ∧ vs = ks.map kV
  | [], _, _, r => by cases r; exact ⟨[], rfl, rfl⟩
  | u :: us, _, h, r => by
    cases r with
    | cons a b =>
      rw [List.all_cons, Bool.and_eq_true] at h
      obtain ⟨k, e1, e2⟩ := isKey_of h.1 a
      obtain ⟨ks, f1, f2⟩ := isKeys_of h.2 b
      exact ⟨k :: ks, by rw [e1, f1]; rfl, by rw [e2, f2]; rfl⟩
theorem isKeyT_of {u : U} {v : V} (h : isKeyT u = true) (r : Rel K H v u) : ∃ (b : Addr) (ks : List Key), u = .tup (ks.map keyU) ∧ v = .ref b ∧ H b = some (.tup (ks.map kV)) := by
  cases r with
  | tup t rl =>
    obtain ⟨ks, e1, e2⟩ := isKeys_of h rl
    rename_i a vs us
    exact ⟨a, ks, by rw [e1], rfl, by rw [← e2]; exact t⟩
  | _ => cases h
theorem dfind_cons (p : U × U) (ks : List (U × U)) (k : U) : dfind (p :: ks) k = if p.1 = k then some p.2 else dfind ks k := by
  unfold dfind
  rw [List.find?_cons]
  by_cases h : p.1 = k
  · simp [h]
  · simp [h]
theorem RelK.find {kvs : List (Key × V)} {ks : List (U × U)} (h : RelK K H kvs ks) (k : Key) : (valV kvs k = none ∧ dfind ks (keyU k) = none) ∨ ∃ v u, valV kvs k = some v ∧ dfind ks (keyU k) = some u ∧ Rel K H v u := by
  unfold RelK at h
  induction h with
  | nil => exact .inl ⟨rfl, rfl⟩
  | @cons p q ps qs a _ ih =>
    rw [dfind_cons]
    by_cases e : p.1 = k
    · right
      refine ⟨p.2, q.2, valV_pos e, ?_, a.2⟩
      rw [if_pos (by rw [a.1, e])]
    · rw [valV_neg e, if_neg (fun z => e (keyU_inj (a.1.symm.trans z)))]
      exact ih
theorem RelT.find {kvs : List (List Key × V)} {ks : List (U × U)} (h : RelT K H kvs ks) (k : List Key) : (valV kvs k = none ∧ dfind ks (.tup (k.map keyU)) = none) ∨ ∃ v u, valV kvs k = some v ∧ dfind ks (.tup (k.map keyU)) = some u ∧ Rel K H v u := by
  unfold RelT at h
  induction h with
  | nil => exact .inl ⟨rfl, rfl⟩
  | @cons p q ps qs a _ ih =>
    rw [dfind_cons]
    by_cases e : p.1 = k
    · right
      refine ⟨p.2, q.2, valV_pos e, ?_, a.2⟩
      rw [if_pos (by rw [a.1, e])]
    · rw [valV_neg e, if_neg (fun z => e (keysU_inj (by
        have z2 := a.1.symm.trans z
        injection z2)))]
      exact ih
theorem Paired.app {α β : Type} {F : α → β → Prop} {xs xs' : List α} {ys ys' : List β} (h : Paired F xs ys) (k : Paired F xs' ys') : Paired F (xs ++ xs') (ys ++ ys') := by
  induction h with
  | nil => exact k
  | cons a _ ih => exact .cons a ih
theorem RelK.put {kvs : List (Key × V)} {ks : List (U × U)} (h : RelK K H kvs ks) (k : Key) {v : V} {u : U} (r : Rel K H v u) : RelK K H (putK kvs k v) (dput ks (keyU k) u) := by
  unfold putK dput
  rw [valV_any]
  have c : (valV kvs k).isSome = (dfind ks (keyU k)).isSome := by
    rcases h.find k with ⟨a, b⟩ | ⟨_, _, a, b, _⟩ <;> rw [a, b] <;> rfl
  rw [c]
  by_cases z : (dfind ks (keyU k)).isSome = true
  · rw [if_pos z, if_pos z]
    unfold RelK at h ⊢
    clear z c
    induction h with
    | nil => exact .nil
    | @cons p q ps qs a _ ih =>
      rw [List.map_cons, List.map_cons]
      refine .cons ?_ ih
      by_cases e : p.1 = k
      · rw [if_pos e, if_pos (by rw [a.1, e])]
        exact ⟨a.1, r⟩
      · rw [if_neg e, if_neg (fun z => e (keyU_inj (a.1.symm.trans z)))]
        exact a
  · rw [if_neg z, if_neg z]
    exact Paired.app h (.cons ⟨rfl, r⟩ .nil)
theorem RelT.put {kvs : List (List Key × V)} {ks : List (U × U)} (h : RelT K H kvs ks) (k : List Key) {v : V} {u : U} (r : Rel K H v u) : RelT K H (putK kvs k v) (dput ks (.tup (k.map keyU)) u) := by
  unfold putK dput
  rw [valV_any]
  have c : (valV kvs k).isSome = (dfind ks (.tup (k.map keyU))).isSome := by
    rcases h.find k with ⟨a, b⟩ | ⟨_, _, a, b, _⟩ <;> rw [a, b] <;> rfl
  rw [c]
  by_cases z : (dfind ks (.tup (k.map keyU))).isSome = true
  · rw [if_pos z, if_pos z]
    unfold RelT at h ⊢
    clear z c
    induction h with
    | nil => exact .nil
    | @cons p q ps qs a _ ih =>
      rw [List.map_cons, List.map_cons]
      refine .cons ?_ ih
      by_cases e : p.1 = k
      · rw [if_pos e, if_pos (by rw [a.1, e])]
        exact ⟨a.1, r⟩
      · rw [if_neg e, if_neg (fun z => e (keysU_inj (by
          have z2 := a.1.symm.trans z
          injection z2)))]
        exact a
  · rw [if_neg z, if_neg z]
    exact Paired.app h (.cons ⟨rfl, r⟩ .nil)
theorem RelK.len {kvs : List (Key × V)} {ks : List (U × U)} (h : RelK K H kvs ks) : kvs.length = ks.length := Paired.length h
theorem RelT.len {kvs : List (List Key × V)} {ks : List (U × U)} (h : RelT K H kvs ks) : kvs.length = ks.length := Paired.length h
theorem fz_rd {z : Bool} {a : Addr} {u : HO} (h : fz z (H a) u) : Rd H a u := by
  unfold fz at h
  cases z with
  | true => exact .inr (show ∃ ob, H a = some (.frz ob u) from h)
  | false => exact .inl h
/-- what a dict holds -/
theorem dget_of (S : Sim K H M) {p : Addr} {z t : Bool} {ks : List (U × U)} {k : U} {y : V} (hm : M p = some (.dct z t ks)) (hk : keyFor t k = true) (r : Rel K H y k) :
    ∃ o, DGet H p y o ∧ ((o = none ∧ dfind ks k = none) ∨ ∃ v u, o = some v ∧ dfind ks k = some u ∧ Rel K H v u) := by
  have q := S p _ hm
  cases t with
  | false =>
    obtain ⟨kvs, e, rk⟩ := q
    obtain ⟨key, e1, e2⟩ := isKey_of hk r
    refine ⟨valV kvs key, .inl ⟨kvs, key, fz_rd e, e2, rfl⟩, ?_⟩
    rw [e1]
    exact rk.find key
  | true =>
    obtain ⟨kvs, e, rk⟩ := q
    obtain ⟨b, key, e1, e2, e3⟩ := isKeyT_of hk r
    refine ⟨valV kvs key, .inr ⟨kvs, key, b, fz_rd e, e2, e3, rfl⟩, ?_⟩
    rw [e1]
    exact rk.find key
theorem dput_of (S : Sim K H M) {p : Addr} {t : Bool} {ks : List (U × U)} {k u : U} {y v : V} (hm : M p = some (.dct false t ks)) (hk : keyFor t k = true) (r : Rel K H y k) (rv : Rel K H v u) (hl : ks.length < LIM) :
    ∃ H', DPut H p y v H' ∧ Stp H M H' (um M p (.dct false t (dput ks k u))) ∧ Sim K H' (um M p (.dct false t (dput ks k u))) := by
  have q := S p _ hm
  cases t with
  | false =>
    obtain ⟨kvs, e, rk⟩ := q
    have e : H p = some (.dK kvs) := e
    obtain ⟨key, e1, e2⟩ := isKey_of hk r
    have st : Stp H M (upd H p (.dK (putK kvs key v))) (um M p (.dct false false (dput ks k u))) := Stp.mut hm
    refine ⟨_, .inl ⟨kvs, key, e, e2, by rw [rk.len]; exact lt_line hl, rfl⟩, st, S.mut (m := .dct false false (dput ks k u)) hm rfl ⟨_, upd_same, ?_⟩⟩
    rw [e1]
    exact RelK.put (Paired.mapR rk fun p q x => ⟨x.1, x.2.stp S st⟩) key (rv.stp S st)
  | true =>
    obtain ⟨kvs, e, rk⟩ := q
    have e : H p = some (.dT kvs) := e
    obtain ⟨b, key, e1, e2, e3⟩ := isKeyT_of hk r
    have st : Stp H M (upd H p (.dT (putK kvs key v))) (um M p (.dct false true (dput ks k u))) := Stp.mut hm
    refine ⟨_, .inr ⟨kvs, key, b, e, e2, e3, by rw [rk.len]; exact lt_line hl, rfl⟩, st, S.mut (m := .dct false true (dput ks k u)) hm rfl ⟨_, upd_same, ?_⟩⟩
    rw [e1]
    exact RelT.put (Paired.mapR rk fun p q x => ⟨x.1, x.2.stp S st⟩) key (rv.stp S st)
theorem relL_in {k : Key} : ∀ {ks : List Key} , inV (kV k) (ks.map kV) = decide (keyU k ∈ ks.map keyU)
  | [] => by simp [inV]
  | x :: xs => by
    have ih := @relL_in k xs
    unfold inV at ih ⊢
    rw [List.map_cons, List.any_cons, ih, List.map_cons]
    have e : eqV (kV x) (kV k) = decide (keyU x = keyU k) := by
      cases x <;> cases k <;> simp [kV, eqV, keyU, Bool.beq_eq_decide_eq]
    rw [e, ← Bool.decide_or]
    exact decide_eq_decide.mpr ⟨fun z => z.elim (fun e => by rw [e]; exact List.mem_cons_self) (List.mem_cons_of_mem _), fun z => (List.mem_cons.mp z).elim (fun e => .inl e.symm) .inr⟩
theorem flat_keys : ∀ ks : List Key, (ks.map kV).all flatV = true
  | [] => rfl
  | k :: ks => by rw [List.map_cons, List.all_cons, flat_keys ks]; cases k <;> rfl
end
end Pl

set_option maxHeartbeats 4000000
namespace Pl
open PySem L2
/-- a comparison: the value is a bool -/
def asB (f : U → U → Hm → (Bool → Hm → Prop) → Prop) : U → U → Hm → QU → Prop := fun a b M Q => f a b M fun k M => Q (.bl k) M
section
variable {X : Cx}
theorem eq_case {a b : U} {M : Hm} {Q : Bool → Hm → Prop} (h : eqW a b M Q) :
    (∃ i j, a = .bl i ∧ b = .bl j ∧ Q (i == j) M) ∨ (∃ i j, a = .int i ∧ b = .int j ∧ Q (decide (i = j)) M) ∨ (∃ i j, a = .str i ∧ b = .str j ∧ Q (decide (i = j)) M) ∨
    (∃ p q us ws, a = .ref p ∧ b = .ref q ∧ M p = some (.lst us) ∧ M q = some (.lst ws) ∧ okL us = true ∧ okL ws = true ∧ Q (decide (us = ws)) M) ∨ (okU a = true ∧ okU b = true ∧ Q (decide (a = b)) M) := by
  unfold eqW at h
  split at h
  · exact .inl ⟨_, _, rfl, rfl, h⟩
  · exact .inr (.inl ⟨_, _, rfl, rfl, h⟩)
  · exact .inr (.inr (.inl ⟨_, _, rfl, rfl, h⟩))
  · obtain ⟨us, ws, h1, h2, h3, h4, h5⟩ := h
    exact .inr (.inr (.inr (.inl ⟨_, _, us, ws, rfl, rfl, h1, h2, h3, h4, h5⟩)))
  · exact .inr (.inr (.inr (.inr h)))
theorem okL_dp {K : Fg} {H : Hp} {M : Hm} (S : Sim K H M) {p : Addr} {us : List U} (h : M p = some (.lst us)) (ok : okL us = true) : Dp K H (.ref p) (.list (pdL us)) := by
  obtain ⟨vs, e, r⟩ := S p _ h
  exact .lst (.inl (.inl e)) (ok_dpL 59 us vs (okL_all ok) r)
theorem op_eqS (hu : X.A.units + 64 < cLine) : OpR X (compareOp .Eq) (R2s X.K (asB eqW)) := by
  intro pins s σ H x y v u Q I rx ry h
  obtain ⟨a, b, M, Qu, S, ra, rb, hf, c⟩ := h
  rcases eq_case hf with ⟨i, j, rfl, rfl, q⟩ | ⟨i, j, rfl, rfl, q⟩ | ⟨i, j, rfl, rfl, q⟩ | ⟨p, p', us, ws, rfl, rfl, h1, h2, h3, h4, q⟩ | ⟨h1, h2, q⟩
  · cases ra; cases rb
    refine op_eq pins s σ H _ _ v u Q I rx ry ⟨rfl, ?_⟩
    rw [dec_bl]
    exact c.at_ S (.bl _) q
  · cases ra; cases rb
    refine op_eq pins s σ H _ _ v u Q I rx ry ⟨rfl, ?_⟩
    rw [dec_int, Bool.beq_eq_decide_eq]
    exact c.at_ S (.bl _) q
  · cases ra; cases rb
    refine op_eq pins s σ H _ _ v u Q I rx ry ⟨rfl, ?_⟩
    rw [dec_str, Bool.beq_eq_decide_eq]
    exact c.at_ S (.bl _) q
  · cases ra; cases rb
    refine op_eqD hu pins s σ H _ _ v u Q I rx ry ⟨_, _, okL_dp S h1 h3, okL_dp S h2 h4, okL_shaped h3, okL_shaped h4, ?_⟩
    have e : PyData.eqv (.list (pdL us)) (.list (pdL ws)) = decide (us = ws) := by
      rw [PyData.eqv]
      exact ok_eqvL 59 us 59 ws (okL_all h3) (okL_all h4)
    rw [e]
    exact c.at_ S (.bl _) q
  · refine op_eqD hu pins s σ H _ _ v u Q I rx ry ⟨_, _, ok_dp 60 a x h1 ra, ok_dp 60 b y h2 rb, ok_shaped h1 (by decide), ok_shaped h2 (by decide), ?_⟩
    rw [ok_eqv 60 a 60 b h1 h2]
    exact c.at_ S (.bl _) q
theorem op_neS (hu : X.A.units + 64 < cLine) : OpR X (compareOp .NotEq) (R2s X.K (asB fun x y M Q => eqW x y M fun b M => Q (!b) M)) := by
  intro pins s σ H x y v u Q I rx ry h
  obtain ⟨a, b, M, Qu, S, ra, rb, hf, c⟩ := h
  have hf : eqW a b M fun b M => Qu (.bl (!b)) M := hf
  rcases eq_case hf with ⟨i, j, rfl, rfl, q⟩ | ⟨i, j, rfl, rfl, q⟩ | ⟨i, j, rfl, rfl, q⟩ | ⟨p, p', us, ws, rfl, rfl, h1, h2, h3, h4, q⟩ | ⟨h1, h2, q⟩
  · cases ra; cases rb
    refine op_ne pins s σ H _ _ v u Q I rx ry ⟨rfl, ?_⟩
    rw [dec_bl]
    exact c.at_ S (.bl _) q
  · cases ra; cases rb
    refine op_ne pins s σ H _ _ v u Q I rx ry ⟨rfl, ?_⟩
    rw [dec_int, Bool.beq_eq_decide_eq]
    exact c.at_ S (.bl _) q
  · cases ra; cases rb
    refine op_ne pins s σ H _ _ v u Q I rx ry ⟨rfl, ?_⟩
    rw [dec_str, Bool.beq_eq_decide_eq]
    exact c.at_ S (.bl _) q
  · cases ra; cases rb
    refine op_neD hu pins s σ H _ _ v u Q I rx ry ⟨_, _, okL_dp S h1 h3, okL_dp S h2 h4, okL_shaped h3, okL_shaped h4, ?_⟩
    have e : PyData.eqv (.list (pdL us)) (.list (pdL ws)) = decide (us = ws) := by
      rw [PyData.eqv]
      exact ok_eqvL 59 us 59 ws (okL_all h3) (okL_all h4)
    rw [e]
    exact c.at_ S (.bl _) q
  · refine op_neD hu pins s σ H _ _ v u Q I rx ry ⟨_, _, ok_dp 60 a x h1 ra, ok_dp 60 b y h2 rb, ok_shaped h1 (by decide), ok_shaped h2 (by decide), ?_⟩
    rw [ok_eqv 60 a 60 b h1 h2]
    exact c.at_ S (.bl _) q
theorem op_inS (hu : X.A.units + 65 < cLine) : OpR X (compareOp .In) (R2s X.K (asB (inW false))) := by
  intro pins s σ H x y v u Q I rx ry h
  obtain ⟨a, b, M, Qu, S, ra, rb, hf, c⟩ := h
  have hf : inW false a b M fun b M => Qu (.bl b) M := hf
  unfold inW at hf
  split at hf
  · obtain ⟨_, _, ⟨h3, h4⟩, q⟩ := hf
    cases rb with
    | tup t r =>
      obtain ⟨ks, e1, e2⟩ := isKeys_of h3 r
      obtain ⟨k, e3, e4⟩ := isKey_of h4 ra
      subst e1 e2 e3 e4
      refine op_in_seq pins s σ H _ _ v u Q I rx ry ⟨_, _, rfl, .inr t.sq, by cases k <;> rfl, flat_keys ks, ?_⟩
      rw [if_neg (by decide), relL_in]
      rw [if_neg (by decide)] at q
      exact c.at_ S (.bl _) q
  · obtain ⟨⟨h3, h4⟩, q⟩ := hf
    cases rb with
    | dtp t r =>
      obtain ⟨ks, e1, e2⟩ := isKeys_of h3 r
      obtain ⟨k, e3, e4⟩ := isKey_of h4 ra
      subst e1 e2 e3 e4
      refine op_in_seq pins s σ H _ _ v u Q I rx ry ⟨_, _, rfl, .inr t.sq, by cases k <;> rfl, flat_keys ks, ?_⟩
      rw [if_neg (by decide), relL_in]
      rw [if_neg (by decide)] at q
      exact c.at_ S (.bl _) q
  · rcases hf with ⟨us, h1, h2, h3, q⟩ | ⟨z, t, ks, h1, h2, q⟩
    · cases rb
      refine op_inD hu pins s σ H _ _ v u Q I rx ry ⟨_, _, ok_dp 60 a x h2 ra, okL_dp S h1 h3, ok_shaped h2 (by decide), okL_shaped h3, ?_⟩
      rw [any_eqv h2 us (okL_all h3)]
      exact c.at_ S (.bl _) q
    · obtain ⟨o, g, q2⟩ := dget_of S h1 h2 ra
      cases rb
      obtain rfl : u = Value.ref _ := ry
      have e : o.isSome = (dfind ks a).isSome := by
        rcases q2 with ⟨e1, e2⟩ | ⟨_, _, e1, e2, _⟩ <;> rw [e1, e2] <;> rfl
      refine d_in (by omega) I g rx fun s' I' => ⟨.bl _, H, I', rfl, ?_⟩
      rw [e]
      exact c.at_ S (.bl _) q
  · exact hf.elim
theorem op_notinS (hu : X.A.units + 65 < cLine) : OpR X (compareOp .NotIn) (R2s X.K (asB (inW true))) := by
  intro pins s σ H x y v u Q I rx ry h
  obtain ⟨a, b, M, Qu, S, ra, rb, hf, c⟩ := h
  have hf : inW true a b M fun b M => Qu (.bl b) M := hf
  unfold inW at hf
  split at hf
  · obtain ⟨_, _, ⟨h3, h4⟩, q⟩ := hf
    cases rb with
    | tup t r =>
      obtain ⟨ks, e1, e2⟩ := isKeys_of h3 r
      obtain ⟨k, e3, e4⟩ := isKey_of h4 ra
      subst e1 e2 e3 e4
      refine op_notIn_seq pins s σ H _ _ v u Q I rx ry ⟨_, _, rfl, .inr t.sq, by cases k <;> rfl, flat_keys ks, ?_⟩
      rw [if_pos rfl, relL_in]
      rw [if_pos rfl] at q
      exact c.at_ S (.bl _) q
  · obtain ⟨⟨h3, h4⟩, q⟩ := hf
    cases rb with
    | dtp t r =>
      obtain ⟨ks, e1, e2⟩ := isKeys_of h3 r
      obtain ⟨k, e3, e4⟩ := isKey_of h4 ra
      subst e1 e2 e3 e4
      refine op_notIn_seq pins s σ H _ _ v u Q I rx ry ⟨_, _, rfl, .inr t.sq, by cases k <;> rfl, flat_keys ks, ?_⟩
      rw [if_pos rfl, relL_in]
      rw [if_pos rfl] at q
      exact c.at_ S (.bl _) q
  · rcases hf with ⟨us, h1, h2, h3, q⟩ | ⟨z, t, ks, h1, h2, q⟩
    · cases rb
      refine op_notInD hu pins s σ H _ _ v u Q I rx ry ⟨_, _, ok_dp 60 a x h2 ra, okL_dp S h1 h3, ok_shaped h2 (by decide), okL_shaped h3, ?_⟩
      rw [any_eqv h2 us (okL_all h3)]
      exact c.at_ S (.bl _) q
    · obtain ⟨o, g, q2⟩ := dget_of S h1 h2 ra
      cases rb
      obtain rfl : u = Value.ref _ := ry
      have e : o.isSome = (dfind ks a).isSome := by
        rcases q2 with ⟨e1, e2⟩ | ⟨_, _, e1, e2, _⟩ <;> rw [e1, e2] <;> rfl
      refine d_notIn (by omega) I g rx fun s' I' => ⟨.bl _, H, I', rfl, ?_⟩
      rw [e]
      exact c.at_ S (.bl _) q
  · exact hf.elim
theorem op_cmpS (hu : X.A.units + 65 < cLine) (op : Cop) : OpR X (compareOp (copOf op)) (R2s X.K (asB (cmpW op))) := by
  cases op with
  | eq => exact op_eqS (by omega)
  | ne => exact op_neS (by omega)
  | isin => exact op_inS hu
  | notin => exact op_notinS hu
  | lt =>
    intro pins s σ H x y v u Q I rx ry h
    obtain ⟨a, b, M, Qu, S, ra, rb, hf, c⟩ := h
    unfold asB cmpW at hf
    simp only at hf
    split at hf
    · cases ra; cases rb; exact op_lt pins s σ H _ _ v u Q I rx ry ⟨_, _, rfl, rfl, c.at_ S (.bl _) hf⟩
    · exact hf.elim
  | le =>
    intro pins s σ H x y v u Q I rx ry h
    obtain ⟨a, b, M, Qu, S, ra, rb, hf, c⟩ := h
    unfold asB cmpW at hf
    simp only at hf
    split at hf
    · cases ra; cases rb; exact op_le pins s σ H _ _ v u Q I rx ry ⟨_, _, rfl, rfl, c.at_ S (.bl _) hf⟩
    · exact hf.elim
  | gt =>
    intro pins s σ H x y v u Q I rx ry h
    obtain ⟨a, b, M, Qu, S, ra, rb, hf, c⟩ := h
    unfold asB cmpW at hf
    simp only at hf
    split at hf
    · cases ra; cases rb; exact op_gt pins s σ H _ _ v u Q I rx ry ⟨_, _, rfl, rfl, c.at_ S (.bl _) hf⟩
    · exact hf.elim
  | ge =>
    intro pins s σ H x y v u Q I rx ry h
    obtain ⟨a, b, M, Qu, S, ra, rb, hf, c⟩ := h
    unfold asB cmpW at hf
    simp only at hf
    split at hf
    · cases ra; cases rb; exact op_ge pins s σ H _ _ v u Q I rx ry ⟨_, _, rfl, rfl, c.at_ S (.bl _) hf⟩
    · exact hf.elim

/-! ### truth -/
def TrS (K : Fg) : V → Hp → (Bool → Hp → Prop) → Prop := fun x H Q => ∃ a M Qu, Sim K H M ∧ Rel K H x a ∧ truW a M Qu ∧ ContB K H M Qu Q
theorem tru_of {K : Fg} {x : V} {H : Hp} {Q : Bool → Hp → Prop} (h : TrS K x H Q) : ∃ k, TruV K x H k ∧ Q k H := by
  obtain ⟨a, M, Qu, S, r, t, c⟩ := h
  unfold truW at t
  split at t
  · cases r; exact ⟨_, rfl, c _ _ _ (Stp.refl H M) S t⟩
  · cases r; exact ⟨_, rfl, c _ _ _ (Stp.refl H M) S t⟩
  · rename_i z
    cases r
    refine ⟨_, ⟨le_line t.1, rfl⟩, ?_⟩
    have e : ((z.length : Int) != 0) = (z.length != 0) := by
      by_cases h : z.length = 0
      · rw [h]; rfl
      · have h2 : (z.length : Int) ≠ 0 := by omega
        rw [bne_iff_ne.mpr h2, bne_iff_ne.mpr h]
    rw [e]
    exact c _ _ _ (Stp.refl H M) S t.2
  · cases r; exact ⟨_, rfl, c _ _ _ (Stp.refl H M) S t⟩
  · cases r with
    | tup t1 r1 =>
      refine ⟨_, .inr (.inl ⟨_, t1.sq, rfl⟩), ?_⟩
      rw [r1.isEmpty]
      exact c _ _ _ (Stp.refl H M) S t
  · rename_i p
    cases r
    rcases t with ⟨us, h1, q⟩ | ⟨ks, h1, q⟩
    · obtain ⟨vs, e, r1⟩ := S _ _ h1
      refine ⟨_, .inl ⟨_, .inl (.inl e), rfl⟩, ?_⟩
      rw [r1.isEmpty]
      exact c _ _ _ (Stp.refl H M) S q
    · obtain ⟨kvs, e, r1⟩ := S _ _ h1
      refine ⟨_, .inr (.inr ⟨kvs, e, rfl⟩), ?_⟩
      have e2 : kvs.isEmpty = ks.isEmpty := by cases r1 <;> rfl
      rw [e2]
      exact c _ _ _ (Stp.refl H M) S q
  · exact t.elim
  · cases r with
    | dtp t1 r1 =>
      refine ⟨_, .inr (.inl ⟨_, t1.sq, rfl⟩), ?_⟩
      rw [r1.isEmpty]
      exact c _ _ _ (Stp.refl H M) S t

/-! ### subscripts -/
theorem ix_pure {K : Fg} {H : Hp} {vs : List V} {us : List U} (r : RelL K H vs us) {j : Int} {u : U} (h : atI us j = some u) : ∃ v, atI vs j = some v ∧ Rel K H v u := by
  unfold atI at h ⊢
  rw [r.length]
  cases e : ixN us.length j with
  | none => rw [e] at h; cases h
  | some k =>
    rw [e] at h
    exact r.get h
theorem ix_S (hu : X.A.units + 1 < cLine) : IxR X (R2s X.K ixW) := by
  intro vl sl pins s σ H x y v u Q I rx ry h hs
  obtain ⟨a, b, M, Qu, S, ra, rb, hf, c⟩ := h
  unfold ixW at hf
  split at hf
  · obtain ⟨j, w, rfl, e, q⟩ := hf
    cases rb
    cases ra with
    | dtp t r =>
      obtain ⟨v1, e1, r1⟩ := ix_pure r e
      exact ix_tup vl sl pins s σ H _ _ v u Q I rx ry ⟨_, _, _, _, rfl, rfl, t.sq, e1, c.at_ S r1 q⟩ hs
  · obtain ⟨j, w, rfl, e, q⟩ := hf
    cases rb
    cases ra with
    | tup t r =>
      obtain ⟨v1, e1, r1⟩ := ix_pure r e
      exact ix_tup vl sl pins s σ H _ _ v u Q I rx ry ⟨_, _, _, _, rfl, rfl, t.sq, e1, c.at_ S r1 q⟩ hs
  · rcases hf with ⟨us, j, w, h1, rfl, e, q⟩ | ⟨z, t, ks, w, h1, h2, e, q⟩
    · cases rb
      cases ra
      obtain ⟨vs, e2, r⟩ := S _ _ h1
      obtain ⟨v1, e1, r1⟩ := ix_pure r e
      exact ix_list vl sl pins s σ H _ _ v u Q I rx ry ⟨_, _, _, _, rfl, rfl, .inl (.inl e2), e1, c.at_ S r1 q⟩ hs
    · obtain ⟨o, g, q2⟩ := dget_of S h1 h2 rb
      cases ra
      obtain rfl : v = Value.ref _ := rx
      rcases q2 with ⟨_, e2⟩ | ⟨v1, u1, e1, e2, r1⟩
      · rw [e] at e2; cases e2
      · rw [e] at e2
        cases e2
        subst e1
        exact PyProof.Rows.tail_any (dict_typeIs I g) PySem.F.slot_dict_getitem.lookup (d_getItem hu I g ry fun w' s' I' rw' => ⟨_, H, I', rw', c.at_ S r1 q⟩) hs
  · obtain ⟨j, cc, rfl, hl, e, q⟩ := hf
    cases ra; cases rb
    exact ix_str vl sl pins s σ H _ _ v u Q I rx ry ⟨_, _, _, rfl, rfl, le_line hl, e, c.at_ S (.str _) q⟩ hs
  · exact hf.elim
end
end Pl

set_option maxHeartbeats 400000
/-! sorted, over data -/
namespace Pl
open PySem L2
mutual
theorem reads_pd : ∀ (n : Nat) (u : U) (h : Heap) (v : Value) (as : List Addr), u.ok n = true → Reads h v (pd u) as → as = []
  | _, .non, _, _, _, _, r => by unfold pd at r; cases r; rfl
  | _, .int i, _, _, _, _, r => by unfold pd at r; cases r; rfl
  | _, .str x, _, _, _, _, r => by unfold pd at r; cases r; rfl
  | n + 1, .tup l, h, _, _, ok, r => by
    unfold pd at r
    cases r with
    | tuple a b c d => exact reads_pdL n l h _ _ (by simpa [U.ok] using ok) d
  | 0, .tup l, _, _, _, ok, _ => by simp [U.ok] at ok
  | _, .bl _, _, _, _, ok, _ => by simp [U.ok] at ok
  | _, .ref _, _, _, _, ok, _ => by simp [U.ok] at ok
  | _, .rol _, _, _, _, ok, _ => by simp [U.ok] at ok
  | _, .dtp _, _, _, _, ok, _ => by simp [U.ok] at ok
theorem reads_pdL : ∀ (n : Nat) (l : List U) (h : Heap) (vs : List Value) (as : List Addr), (∀ x ∈ l, x.ok n = true) → ReadsAll h vs (pdL l) as → as = []
  | _, [], _, _, _, _, r => by unfold pdL at r; cases r; rfl
  | n, x :: xs, h, _, _, ok, r => by
    unfold pdL at r
    cases r with
    | cons a b => rw [reads_pd n x h _ _ (ok x List.mem_cons_self) a, reads_pdL n xs h _ _ (fun y hy => ok y (List.mem_cons_of_mem _ hy)) b]; rfl
end
theorem relK_keys {K : Fg} {H : Hp} : ∀ {kvs : List (Key × V)} {ks : List (U × U)}, RelK K H kvs ks → RelL K H (kvs.map fun kv => kV kv.1) (ks.map (·.1))
  | [], _, r => by unfold RelK at r; cases r; exact .nil
  | (k, v) :: kvs, _, r => by
    unfold RelK at r
    cases r with
    | @cons p q ps qs a b =>
      rw [List.map_cons, List.map_cons]
      refine .cons ?_ (relK_keys b)
      rw [a.1]
      cases k with
      | inl i => exact .int i
      | inr x => exact .str x
theorem relL_keys {K : Fg} {H : Hp} : ∀ k : List Key, RelL K H (k.map kV) (k.map keyU)
  | [] => .nil
  | .inl i :: r => .cons (.int i) (relL_keys r)
  | .inr i :: r => .cons (.str i) (relL_keys r)
/-- a call by values -/
def CRs (K : Fg) (g : List U → Hm → QU → Prop) : List V → Hp → VK → Prop := fun xs H Q => ∃ us M Qu, Sim K H M ∧ RelL K H xs us ∧ g us M Qu ∧ Cont K H M Qu Q
theorem paired_get {α β : Type} {F : α → β → Prop} : ∀ {as : List α} {bs : List β} {i : Nat} {a : α}, Paired F as bs → as[i]? = some a → ∃ b, bs[i]? = some b ∧ F a b
  | _, _, i, _, .nil, h => by simp at h
  | _, _, 0, _, .cons q _, h => ⟨_, rfl, by simp at h; rw [← h]; exact q⟩
  | _, _, i + 1, _, .cons _ r, h => by
    obtain ⟨b, e, q⟩ := paired_get r (by simpa using h)
    exact ⟨b, by simpa using e, q⟩
section
variable {X : Cx} {pins : List (Addr × Obj)} {σ : L2.St} {H : Hp} {s : Shared} {Q : VK} {M : Hm} {Qu : QU}
theorem each_of {us : List Value} {vs : List V} (r : Vals vs us) : ∀ {ws : List U}, vs.length = ws.length → W.EachIs (fun u (b : V × U) => RelV b.1 u) us (vs.zip ws) := by
  induction r with
  | nil => intro ws h; exact .nil
  | cons a _ ih =>
    intro ws h
    cases ws with
    | nil => cases h
    | cons w ws => exact .cons a (ih (by simpa using h))
theorem each_rev {us : List Value} {bs : List (V × U)} (r : W.EachIs (fun u (b : V × U) => RelV b.1 u) us bs) : Vals (bs.map (·.1)) us := by
  induction r with
  | nil => exact .nil
  | cons a _ ih => exact .cons a ih
theorem relL_zip {K : Fg} : ∀ {vs : List V} {ws : List U}, RelL K H vs ws → ∀ b ∈ vs.zip ws, Rel K H b.1 b.2 := by
  intro vs ws r
  induction vs generalizing ws with
  | nil => intro b hb; cases hb
  | cons v vs ih =>
    cases r with
    | cons a r =>
      intro b hb
      rw [List.zip_cons_cons] at hb
      rcases List.mem_cons.mp hb with e | hb
      · subst e; exact a
      · exact ih r b hb
theorem relL_of_all {K : Fg} : ∀ {bs : List (V × U)}, (∀ b ∈ bs, Rel K H b.1 b.2) → RelL K H (bs.map (·.1)) (bs.map (·.2))
  | [], _ => .nil
  | b :: bs, h => .cons (h b List.mem_cons_self) (relL_of_all fun c hc => h c (List.mem_cons_of_mem _ hc))
theorem each_reads (I : L2.Inv X pins σ H s) {h' : Heap} (hk : ∀ b o, s.heap.get? b = some o → h'.get? b = some o) (a0 : Addr) {us : List Value} {bs : List (V × U)} (e1 : W.EachIs (fun u (b : V × U) => RelV b.1 u) us bs) (dp : ∀ b ∈ bs, Rel X.K H b.1 b.2) (okz : ∀ b ∈ bs, b.2.ok 59 = true) :
    W.EachIs (fun v (b : V × U) => ∃ as, Reads h' v (pd b.2) as ∧ ¬ a0 ∈ as) us bs := by
  induction e1 with
  | nil => exact .nil
  | @cons u b us' bs' a _ ih =>
    refine .cons ?_ (ih (fun b hb => dp b (List.mem_cons_of_mem _ hb)) (fun b hb => okz b (List.mem_cons_of_mem _ hb)))
    have hd := ok_dp 59 b.2 b.1 (okz b List.mem_cons_self) (dp b List.mem_cons_self)
    obtain ⟨as, hr⟩ := hd.reads I _ _ _ a
    have h0 := reads_pd 59 b.2 _ _ _ (okz b List.mem_cons_self) hr
    subst h0
    exact ⟨[], PyProof.Rows.Reads.keeps hk hr, List.not_mem_nil⟩
theorem sort_tail (I : L2.Inv X pins σ H s) (hu : X.A.units + 66 < cLine) (S : Sim X.K H M) (c : Cont X.K H M Qu Q) {vs : List V} {us : List Value} {ws : List U} (rv : Vals vs us) (rl : RelL X.K H vs ws) (ok : sortOk ws) (hq : ∀ a, M a = none → Qu (.ref a) (um M a (.lst (sortU ws))))
    {h1 : Heap} {tk : Nat} (hk : ∀ (b : Addr) (u : Obj), s.heap.get? b = some u → h1.get? b = some u) :
    wpAny (model X.prog X.w) X.A.in1 (newList us >>= fun l => holding [l] (call (.builtin "list.sort") [l]) >>= fun _ => PySem.ret l) (fun fin s' => ∃ v, fin = Fin.done (Flow.ret v) ∧ EP X pins σ Q v s') X.xe ⟨h1, s.gens, s.drawn, tk, s.os⟩ := by
  obtain ⟨ok1, ok2, ok3, ok4⟩ := ok
  have okA : ∀ x ∈ ws, x.ok 59 = true := List.all_eq_true.mp ok1
  have I1 : L2.Inv X pins σ H ⟨h1, s.gens, s.drawn, tk, s.os⟩ := I.kept hk
  have el : vs.length = ws.length := rl.length
  have e1 : W.EachIs (fun u (b : V × U) => RelV b.1 u) us (vs.zip ws) := each_of rv el
  have eu : us.length = ws.length := by rw [e1.length, List.length_zip, el, Nat.min_self]
  have esnd : (vs.zip ws).map (fun b => pd b.2) = ws.map pd := by
    rw [show (fun b : V × U => pd b.2) = pd ∘ Prod.snd from rfl, ← List.map_map, List.map_snd_zip (by omega)]
  have hL : us.length ≤ sizeLine := by rw [eu, sizeLine_eq]; unfold LIM at ok4; omega
  refine wpAny_bind (wpAny_newList ?_ hL)
  have hoL : (h1.push (PyProof.Rows.seqObj "list" us.toArray 0)).get? h1.objs.size = some (PyProof.Rows.seqObj "list" us.toArray 0) := Heap.get?_push_size h1 rfl
  refine wpAny_bind (wpAny_holding (W.list_sort_data (n := 0) (bs := vs.zip ws) (enc := fun b => pd b.2) (R := fun u b => RelV b.1 u) hoL e1 ?_ (by rw [esnd]; exact ok2) (by rw [esnd]; exact ok3) (by rw [← e1.length]; exact hL) ?_ ?_))
  · exact each_reads I1 (fun b o e => Heap.get?_push_of_some _ e) _ e1 (relL_zip rl) (fun b hb => okA _ (List.of_mem_zip hb).2)
  · intro b hb
    have := (ok_lay 59 b.2 (okA _ (List.of_mem_zip hb).2)).2
    show X.A.units + 1 + 1 + _ < _
    omega
  · intro out hlen heach
    obtain ⟨e', he'⟩ := PyProof.Rows.sortedHeap_at (out := out.toArray) hoL
    have hs : ((vs.zip ws).mergeSort (W.dataLe false fun b => pd b.2)).map Prod.snd = sortU ws := by
      have := W.sort_maps (r := W.dataLe false fun b : V × U => pd b.2) (s := W.dataLe false pd) Prod.snd (l := vs.zip ws) (fun a _ b _ => rfl)
      rw [this, List.map_snd_zip (by omega)]
      rfl
    have hrel : RelL X.K H (((vs.zip ws).mergeSort (W.dataLe false fun b => pd b.2)).map Prod.fst) (sortU ws) := by
      rw [← hs]
      exact relL_of_all fun b hb => relL_zip rl b (List.mem_mergeSort.mp hb)
    have hout := each_rev heach
    refine wpAny_pure ⟨_, rfl, V.ref h1.objs.size, upd H h1.objs.size (.lst (((vs.zip ws).mergeSort (W.dataLe false fun b => pd b.2)).map Prod.fst)), ?_, rfl, c.lst S hrel hq (I1.hok.fresh (Nat.le_refl _))⟩
    refine I1.laid (fun b u e => ?_) (Nat.le_refl _) ⟨?_, out, e', hout, he'⟩
    · have hb := Heap.lt_size e
      rw [PyProof.Rows.sortedHeap_old (Nat.ne_of_lt hb) (by rw [PyProof.Rows.size_push']; exact Nat.lt_succ_of_lt hb)]
      exact Heap.get?_push_of_some _ e
    · rw [hrel.length]
      unfold sortU
      rw [List.length_mergeSort, ← eu]
      exact hL
theorem vals1R {K : Fg} {H : Hp} {xs : List V} {u : U} (r : RelL K H xs [u]) : ∃ v, xs = [v] ∧ Rel K H v u := by
  cases r with
  | cons a b => cases b; exact ⟨_, rfl, a⟩
theorem vals_pt : ∀ {as : List V} {us : List Value}, as.length = us.length → (∀ (j : Nat) (a : V) (u : Value), as[j]? = some a → us[j]? = some u → RelV a u) → Vals as us
  | [], [], _, _ => .nil
  | a :: as, u :: us, h, p => .cons (p 0 a u rfl rfl) (vals_pt (by simpa using h) fun j a' u' h1 h2 => p (j + 1) a' u' (by simpa using h1) (by simpa using h2))
  | [], _ :: _, h, _ => by cases h
  | _ :: _, [], h, _ => by cases h
theorem relT_keys {K : Fg} {H : Hp} : ∀ {kvs : List (List Key × V)} {xs : List (List Key × Addr × Value)} {ks : List (U × U)}, KT H kvs xs → RelT K H kvs ks → RelL K H (xs.map fun x => V.ref x.2.1) (ks.map (·.1))
  | [], _, _, k, r => by unfold RelT at r; cases k; cases r; exact .nil
  | (k, v) :: kvs, _, _, kt, r => by
    unfold RelT at r
    cases kt with
    | cons a b => cases r with
      | @cons p q ps qs c d =>
        rw [List.map_cons, List.map_cons]
        refine .cons ?_ (relT_keys b d)
        rw [c.1]
        exact .tup a.2.1 (relL_keys k)
theorem cr_sortedS (hc : X.calm = true) (hu : X.A.units + 66 < cLine) : CallR X (.builtin "sorted") (CRs X.K (bltW .sorted)) := by
  intro pins s σ H xs us Q I r h
  obtain ⟨as, M, Qu, S, ra, hf, c⟩ := h
  unfold bltW at hf
  split at hf <;> first | (rename_i e; cases e; done) | skip
  · obtain ⟨v, rfl, rv⟩ := vals1R ra
    cases rv
    rename_i p _
    obtain ⟨u, rfl, ru⟩ := vals1 r
    have eu : u = Value.ref p := ru
    subst eu
    refine Calls.call_function_entry PyProof.Rows.kind_sorted PyProof.Rows.plain_sorted PyProof.Rows.entry_sorted (PyProof.Rows.args_sorted1 _) ?_
    refine wpAny_bind (wpAny_pure (wpAny_bind ?_))
    rcases hf with ⟨ws, h1, ok, q⟩ | ⟨t, ks, h1, ok, q⟩
    · obtain ⟨vs, e, rl⟩ := S _ _ h1
      have ob := I.hok _ _ e
      simp only [ObjOk] at ob
      obtain ⟨hlen, its, x, vals, get⟩ := ob
      have hl : its.length ≤ sizeLine := by rw [← vals.length]; exact hlen
      refine PyProof.Rows.collect_list (vs := its) ⟨_, get, rfl, _, rfl⟩ ?_ hl
      exact sort_tail I hu S c vals rl ok q fun b o e => by
        rw [Heap.get?_update_ne _ _ _ _ (Nat.ne_of_lt (Heap.lt_size e))]
        exact Heap.get?_push_of_some _ e
    · have q0 := S _ _ h1
      cases t with
      | false =>
        obtain ⟨kvs, e, rl⟩ := q0
        obtain ⟨z, lo, vs, rel, dd⟩ := dk_rd I.hok (.inl e)
        obtain ⟨ep, hat⟩ := dd.dictAt
        have el : vs.length = kvs.length := (Paired.length rel).symm
        refine W.kdu_collect (W.kdl_dict lo) (I.ok.hd hc) hat (by rw [el]; exact z) fun h' tk acc hk hacc => ?_
        refine sort_tail I hu S c (vals_pt (as := kvs.map fun kv => kV kv.1) ?_ fun j a u ha hu' => ?_) (relK_keys rl) ok q hk
        · have h5 := hacc.1
          show (kvs.map _).length = acc.toList.length
          rw [List.length_map, ← el, ← h5]
          exact Array.length_toList.symm
        · rw [Array.getElem?_toList] at hu'
          obtain ⟨k, x, e1, e2⟩ := hacc.2 j u hu'
          rw [List.getElem?_map] at ha
          cases h2 : kvs[j]? with
          | none => rw [h2] at ha; cases ha
          | some kv =>
            rw [h2] at ha
            cases ha
            obtain ⟨kv', h3, h4⟩ := paired_get rel h2
            rw [h3] at e1
            cases e1
            show RelV (kV kv.1) u
            rw [h4.1]
            cases k with
            | inl i =>
              obtain ⟨t, et⟩ := Value.isInt_shape e2
              exact ⟨t, et⟩
            | inr x =>
              obtain ⟨t, et⟩ := Value.isStrOf_shape e2
              exact ⟨t, et⟩
      | true =>
        obtain ⟨kvs, e, rl⟩ := q0
        obtain ⟨z, lo, xs, rel, o, es, ep, g1, g2, g3, g4, g5, g6⟩ := dt_rd I.hok (.inl e)
        have el : xs.length = kvs.length := (Paired.length rel).symm
        have esl : es.size = xs.length := by rw [← Array.length_toList, g4, List.length_map]
        refine W.kdu_collect (PySem.KdlSrc.rawDict (es := es) (ep := ep) lo) (I.ok.hd hc) ⟨o, g1, g2, g3⟩ (by rw [esl, el]; exact z) fun h' tk acc hk hacc => ?_
        refine sort_tail I hu S c (vals_pt (as := xs.map fun x => V.ref x.2.1) ?_ fun j a u ha hu' => ?_) (relT_keys rel rl) ok q hk
        · have h5 := hacc.1
          show (xs.map _).length = acc.toList.length
          rw [List.length_map, ← esl, ← h5]
          exact Array.length_toList.symm
        · rw [Array.getElem?_toList] at hu'
          obtain ⟨hi, e1⟩ := hacc.2 j u hu'
          rw [List.getElem?_map] at ha
          cases h2 : xs[j]? with
          | none => rw [h2] at ha; cases ha
          | some x =>
            rw [h2] at ha
            cases ha
            have e3 : es.toList[j]? = some (entryOfKey (tupleKind (mixKind X.prog X.w)) x) := by rw [g4, List.getElem?_map, h2]; rfl
            rw [Array.getElem?_toList, Array.getElem?_eq_getElem hi] at e3
            rw [e1, Option.some.inj e3]
            rfl
  · exact hf.elim
end
end Pl

set_option maxHeartbeats 4000000
namespace Pl
open PySem L2
/-- a method by values: the receiver's reading and the arguments' stand apart -/
def MRs (K : Fg) (g : U → List U → Hm → QU → Prop) : V → List V → Hp → VK → Prop := fun x xs H Q => ∃ a us M Qu, Sim K H M ∧ Rel K H x a ∧ RelL K H xs us ∧ g a us M Qu ∧ Cont K H M Qu Q
def SlS (K : Fg) : V → Option Int → Option Int → Hp → VK → Prop := fun x lo hi H Q => ∃ a M Qu, Sim K H M ∧ Rel K H x a ∧ sliceW a lo hi M Qu ∧ Cont K H M Qu Q
section
variable {X : Cx}
theorem cut_rel {K : Fg} {H : Hp} {vs : List V} {us : List U} (r : RelL K H vs us) (lo hi : Option Int) : RelL K H (cutV vs lo hi) (cutU us lo hi) := by
  unfold cutV cutU
  rw [r.length]
  exact (r.drop _).take _
theorem cut_whole {us : List U} {lo hi : Option Int} (h : HT.sIx us.length 0 lo = 0 ∧ HT.sIx us.length us.length hi = us.length) : cutU us lo hi = us := by
  unfold cutU
  rw [h.1, h.2]
  simp
theorem sl_S : SlR X (SlS X.K) := by
  intro pins s σ H x v vl vu lo hi sl Q I rx hs pl pu h
  obtain ⟨a, M, Qu, S, ra, hf, c⟩ := h
  unfold sliceW at hf
  split at hf
  · rename_i l
    cases ra with
    | tup t r =>
      refine sl_tupA pins s σ H _ v vl vu lo hi sl Q I rx hs pl pu ⟨_, _, rfl, t.sq, fun hw => ?_, fun _ p hp => c.tup S (cut_rel r lo hi) hf hp⟩
      rw [r.length] at hw
      rw [cut_whole hw] at hf
      exact c.at_ S (.tup t r) hf
  · obtain ⟨us, h1, q⟩ := hf
    obtain ⟨vs, e, r⟩ := S _ _ h1
    cases ra
    exact sl_list pins s σ H _ v vl vu lo hi sl Q I rx hs pl pu ⟨_, _, rfl, .inl (.inl e), fun p hp => c.lst S (cut_rel r lo hi) q hp⟩
  · exact hf.elim
/-- o[i] = v -/
def SetS (K : Fg) : TSet := fun o i v H Q => ∃ a b u M Qu, Sim K H M ∧ Rel K H o a ∧ Rel K H i b ∧ Rel K H v u ∧ setW a b u M Qu ∧ ∀ H' M', Stp H M H' M' → Sim K H' M' → Qu M' → Q H'
theorem set_S (hu : X.A.units + 1 < cLine) : PSet X (SetS X.K) := by
  intro pins s σ H o i v ov iv u Q I ro ri rv h
  obtain ⟨a, b, u', M, Qu, S, ra, rb, ru, hf, c⟩ := h
  unfold setW at hf
  split at hf
  · rcases hf with ⟨us, j, k, h1, rfl, e, q⟩ | ⟨t, ks, h1, h2, h3, q⟩
    · obtain ⟨vs, e1, r⟩ := S _ _ h1
      cases ra
      cases rb
      refine set_list pins s σ H _ _ v ov iv u Q I ro ri rv ⟨_, vs, j, k, rfl, rfl, e1, by rw [r.length]; exact e, ?_⟩
      exact c _ _ (Stp.mut h1) (S.mut (m := .lst (us.set k u')) h1 rfl ⟨_, upd_same, (r.set k ru).stp S (Stp.mut (m := .lst (us.set k u')) h1)⟩) q
    · obtain ⟨H', g, st, S'⟩ := dput_of S h1 h2 rb ru h3
      cases ra
      obtain rfl : ov = Value.ref _ := ro
      exact d_setItem hu I g ri rv fun s' I' => ⟨H', I', c _ _ st S' q⟩
  · exact hf.elim
/-! ### built-ins -/
theorem vals2R {K : Fg} {H : Hp} {xs : List V} {u w : U} (r : RelL K H xs [u, w]) : ∃ v y, xs = [v, y] ∧ Rel K H v u ∧ Rel K H y w := by
  cases r with
  | cons a b => obtain ⟨y, rfl, q⟩ := vals1R b; exact ⟨_, y, rfl, a, q⟩
theorem relL_ints {K : Fg} {H : Hp} : ∀ {ns : List Int} {vs : List V}, RelL K H vs (ns.map U.int) → vs = ns.map V.int
  | [], vs, h => by cases h; rfl
  | n :: ns, vs, h => by
    cases h with
    | cons a b => cases a; rw [relL_ints b]; rfl
theorem relL_bls {K : Fg} {H : Hp} : ∀ {ns : List Bool} {vs : List V}, RelL K H vs (ns.map U.bl) → vs = ns.map V.bl
  | [], vs, h => by cases h; rfl
  | n :: ns, vs, h => by
    cases h with
    | cons a b => cases a; rw [relL_bls b]; rfl
def bfnV : Bfn → Option Value
  | .len => some (.builtin "len")
  | .list => some (.type "list")
  | .tuple => some (.type "tuple")
  | .int => some (.type "int")
  | .abs => some (.builtin "abs")
  | .max => some (.builtin "max")
  | .min => some (.builtin "min")
  | .sorted => some (.builtin "sorted")
  | .sum => some (.builtin "sum")
  | .all => some (.builtin "all")
  | .any => some (.builtin "any")
  | .tupd => some (.type "tuple")
  | _ => none
theorem cr_len : CallR X (.builtin "len") (CRs X.K (bltW .len)) := by
  intro pins s σ H xs us Q I r h
  obtain ⟨as, M, Qu, S, ra, hf, c⟩ := h
  unfold bltW at hf
  split at hf <;> first | (rename_i e; cases e; done) | skip
  · rename_i e
    obtain ⟨v, rfl, rv⟩ := vals1R ra
    cases rv with
    | tup t rl =>
      refine call_len_seq pins s σ H _ us Q I r ⟨_, _, rfl, .inr t.sq, ?_⟩
      rw [rl.length]
      exact c.at_ S (.int _) hf
  · obtain ⟨v, rfl, rv⟩ := vals1R ra
    cases rv
    exact call_len_str pins s σ H _ us Q I r ⟨_, rfl, le_line hf.1, c.at_ S (.int _) hf.2⟩
  · obtain ⟨v, rfl, rv⟩ := vals1R ra
    cases rv
    rcases hf with ⟨ws, h1, q⟩ | ⟨ks, h1, q⟩
    · obtain ⟨vs, e, rl⟩ := S _ _ h1
      refine call_len_seq pins s σ H _ us Q I r ⟨_, _, rfl, .inl (.inl (.inl e)), ?_⟩
      rw [rl.length]
      exact c.at_ S (.int _) q
    · obtain ⟨kvs, e, rl⟩ := S _ _ h1
      refine call_lenD pins s σ H _ us Q I r ⟨_, _, rfl, e, ?_⟩
      rw [RelK.len rl]
      exact c.at_ S (.int _) q
  · obtain ⟨v, rfl, rv⟩ := vals1R ra
    cases rv with
    | dtp t rl =>
      refine call_len_seq pins s σ H _ us Q I r ⟨_, _, rfl, .inr t.sq, ?_⟩
      rw [rl.length]
      exact c.at_ S (.int _) hf
  · exact hf.elim
theorem cr_listS (hc : X.calm = true) : CallR X (.type "list") (CRs X.K (bltW .list)) := by
  intro pins s σ H xs us Q I r h
  obtain ⟨as, M, Qu, S, ra, hf, c⟩ := h
  unfold bltW at hf
  split at hf <;> first | (rename_i e; cases e; done) | skip
  · obtain ⟨v, rfl, rv⟩ := vals1R ra
    cases rv with
    | tup t rl => exact call_list_of pins s σ H _ us Q I r ⟨_, _, rfl, .inr t.sq, fun l hl => c.lst S rl hf hl⟩
  · obtain ⟨v, rfl, rv⟩ := vals1R ra
    cases rv
    rcases hf with ⟨ws, h1, q⟩ | ⟨ks, h1, q⟩
    · obtain ⟨vs, e, rl⟩ := S _ _ h1
      exact call_list_of pins s σ H _ us Q I r ⟨_, _, rfl, .inl (.inl (.inl e)), fun l hl => c.lst S rl q hl⟩
    · obtain ⟨kvs, e, rl⟩ := S _ _ h1
      exact call_list_dK hc pins s σ H _ us Q I r ⟨_, _, rfl, e, fun l hl => c.lst S (relK_keys rl) q hl⟩
  · obtain ⟨v, rfl, rv⟩ := vals1R ra
    cases rv with
    | dtp t rl => exact call_list_of pins s σ H _ us Q I r ⟨_, _, rfl, .inr t.sq, fun l hl => c.lst S rl hf hl⟩
  · exact hf.elim
theorem cr_tupleS : CallR X (.type "tuple") (CRs X.K (bltW .tuple)) := by
  intro pins s σ H xs us Q I r h
  obtain ⟨as, M, Qu, S, ra, hf, c⟩ := h
  unfold bltW at hf
  split at hf <;> first | (rename_i e; cases e; done) | skip
  · obtain ⟨v, rfl, rv⟩ := vals1R ra
    cases rv with
    | tup t rl => exact call_tuple_of pins s σ H _ us Q I r ⟨_, _, rfl, .inr ⟨t.sq, c.at_ S (.tup t rl) hf⟩⟩
  · obtain ⟨v, rfl, rv⟩ := vals1R ra
    cases rv with
    | dtp t rl => exact call_tuple_of pins s σ H _ us Q I r ⟨_, _, rfl, .inr ⟨t.sq, c.at_ S (.dtp t rl) hf⟩⟩
  · obtain ⟨v, rfl, rv⟩ := vals1R ra
    cases rv
    obtain ⟨ws, h1, q⟩ := hf
    obtain ⟨vs, e, rl⟩ := S _ _ h1
    exact call_tuple_of pins s σ H _ us Q I r ⟨_, _, rfl, .inl ⟨.inl (.inl e), fun l hl => c.tup S rl q hl⟩⟩
  · exact hf.elim
theorem cr_tupdS : CallR X (.type "tuple") (CRs X.K (bltW .tupd)) := by
  intro pins s σ H xs us Q I r h
  obtain ⟨as, M, Qu, S, ra, hf, c⟩ := h
  unfold bltW at hf
  split at hf <;> first | (rename_i e; cases e; done) | skip
  · obtain ⟨v, rfl, rv⟩ := vals1R ra
    cases rv
    obtain ⟨ws, h1, q⟩ := hf
    obtain ⟨vs, e, rl⟩ := S _ _ h1
    obtain ⟨u, rfl, rx⟩ := vals1 r
    cases rx
    obtain ⟨its, r', pl, hz⟩ := I.list (xs := vs) (.inl (.inl e))
    have hlen := r'.length
    refine call_tuple_list pl.isList (fun h' kp => ?_) (by simp only [List.size_toArray] <;> omega)
    have I1 : L2.Inv X pins σ H { s with heap := h' } := I.kept (t' := s.toks) kp
    have hf0 := I1.hok.fresh (Nat.le_refl h'.objs.size)
    have I2 : L2.Inv X pins σ (upd H h'.objs.size (.frz { cls := .type "tuple", data := .seq its.toArray } (.tup vs))) { s with heap := h'.push { cls := .type "tuple", data := .seq its.toArray } } :=
      I1.laid (t' := s.toks) (fun b o e => Heap.get?_push_of_some _ e) (Nat.le_refl _) (show ObjOk X.prog X.w _ _ _ (.frz _ (.tup vs)) from ⟨Heap.get?_push_size _ rfl, hz, its, r', PyProof.Rows.IsTup.new _ _⟩)
    refine ⟨.ref h'.objs.size, _, I2, rfl, ?_⟩
    have st : Stp H M (upd H h'.objs.size (.frz { cls := .type "tuple", data := .seq its.toArray } (.tup vs))) M := Stp.newT S hf0
    have S2 : Sim X.K (upd H h'.objs.size (.frz { cls := .type "tuple", data := .seq its.toArray } (.tup vs))) M := S.to st fun a o e => .inl ⟨e, upd_ne fun z => by
      have q := S.fr hf0
      rw [z, q] at e
      cases e⟩
    exact c _ _ (.dtp ws) M st S2 (.dtp ⟨_, upd_same, rfl⟩ (rl.stp S st)) q
  · exact hf.elim
theorem cr_intS : CallR X (.type "int") (CRs X.K (bltW .int)) := by
  intro pins s σ H xs us Q I r h
  obtain ⟨as, M, Qu, S, ra, hf, c⟩ := h
  unfold bltW at hf
  split at hf <;> first | (rename_i e; cases e; done) | skip
  · obtain ⟨v, rfl, rv⟩ := vals1R ra
    cases rv
    exact call_int1 pins s σ H _ us Q I r (.inl ⟨_, rfl, c.at_ S (.int _) hf⟩)
  · obtain ⟨v, rfl, rv⟩ := vals1R ra
    cases rv
    exact call_int1 pins s σ H _ us Q I r (.inr ⟨_, rfl, c.at_ S (.int _) hf⟩)
  · exact hf.elim
theorem cr_absS : CallR X (.builtin "abs") (CRs X.K (bltW .abs)) := by
  intro pins s σ H xs us Q I r h
  obtain ⟨as, M, Qu, S, ra, hf, c⟩ := h
  unfold bltW at hf
  split at hf <;> first | (rename_i e; cases e; done) | skip
  · obtain ⟨v, rfl, rv⟩ := vals1R ra
    cases rv
    exact call_abs pins s σ H _ us Q I r ⟨_, rfl, c.at_ S (.int _) hf⟩
  · exact hf.elim
theorem cr_maxS (hc : X.calm = true) : CallR X (.builtin "max") (CRs X.K (bltW .max)) := by
  intro pins s σ H xs us Q I r h
  obtain ⟨as, M, Qu, S, ra, hf, c⟩ := h
  unfold bltW at hf
  split at hf <;> first | (rename_i e; cases e; done) | skip
  · obtain ⟨v, y, rfl, rv, ry⟩ := vals2R ra
    cases rv; cases ry
    exact call_max2 hc pins s σ H _ us Q I r ⟨_, _, rfl, c.at_ S (.int _) hf⟩
  · obtain ⟨v, rfl, rv⟩ := vals1R ra
    cases rv
    obtain ⟨ns, h1, hn, q⟩ := hf
    obtain ⟨vs, e, rl⟩ := S _ _ h1
    obtain rfl := relL_ints rl
    exact cr_max hc pins s σ H _ us Q I r ⟨_, ns, rfl, .inl (.inl e), hn, fun m h1 h2 => c.at_ S (.int _) (q m h1 h2)⟩
  · exact hf.elim
theorem cr_minS (hc : X.calm = true) : CallR X (.builtin "min") (CRs X.K (bltW .min)) := by
  intro pins s σ H xs us Q I r h
  obtain ⟨as, M, Qu, S, ra, hf, c⟩ := h
  unfold bltW at hf
  split at hf <;> first | (rename_i e; cases e; done) | skip
  · obtain ⟨v, y, rfl, rv, ry⟩ := vals2R ra
    cases rv; cases ry
    exact call_min2 hc pins s σ H _ us Q I r ⟨_, _, rfl, c.at_ S (.int _) hf⟩
  · obtain ⟨v, rfl, rv⟩ := vals1R ra
    cases rv
    obtain ⟨ns, h1, hn, q⟩ := hf
    obtain ⟨vs, e, rl⟩ := S _ _ h1
    obtain rfl := relL_ints rl
    exact cr_min hc pins s σ H _ us Q I r ⟨_, ns, rfl, .inl (.inl e), hn, fun m h1 h2 => c.at_ S (.int _) (q m h1 h2)⟩
  · exact hf.elim
theorem cr_sumS (hc : X.calm = true) : CallR X (.builtin "sum") (CRs X.K (bltW .sum)) := by
  intro pins s σ H xs us Q I r h
  obtain ⟨as, M, Qu, S, ra, hf, c⟩ := h
  unfold bltW at hf
  split at hf <;> first | (rename_i e; cases e; done) | skip
  · obtain ⟨v, rfl, rv⟩ := vals1R ra
    cases rv
    obtain ⟨ns, h1, q⟩ := hf
    obtain ⟨vs, e, rl⟩ := S _ _ h1
    obtain rfl := relL_ints rl
    exact cr_sum hc pins s σ H _ us Q I r ⟨_, ns, rfl, .inl (.inl e), c.at_ S (.int _) q⟩
  · exact hf.elim
theorem cr_allS (hc : X.calm = true) : CallR X (.builtin "all") (CRs X.K (bltW .all)) := by
  intro pins s σ H xs us Q I r h
  obtain ⟨as, M, Qu, S, ra, hf, c⟩ := h
  unfold bltW at hf
  split at hf <;> first | (rename_i e; cases e; done) | skip
  · obtain ⟨v, rfl, rv⟩ := vals1R ra
    cases rv
    obtain ⟨ns, h1, q⟩ := hf
    obtain ⟨vs, e, rl⟩ := S _ _ h1
    obtain rfl := relL_bls rl
    exact cr_all hc pins s σ H _ us Q I r ⟨_, ns, rfl, .inl (.inl e), c.at_ S (.bl _) q⟩
  · exact hf.elim
theorem cr_anyS (hc : X.calm = true) : CallR X (.builtin "any") (CRs X.K (bltW .any)) := by
  intro pins s σ H xs us Q I r h
  obtain ⟨as, M, Qu, S, ra, hf, c⟩ := h
  unfold bltW at hf
  split at hf <;> first | (rename_i e; cases e; done) | skip
  · obtain ⟨v, rfl, rv⟩ := vals1R ra
    cases rv
    obtain ⟨ns, h1, q⟩ := hf
    obtain ⟨vs, e, rl⟩ := S _ _ h1
    obtain rfl := relL_bls rl
    exact cr_any hc pins s σ H _ us Q I r ⟨_, ns, rfl, .inl (.inl e), c.at_ S (.bl _) q⟩
  · exact hf.elim
theorem cr_S (hc : X.calm = true) (hu : X.A.units + 66 < cLine) {f : Bfn} {v : Value} (h : bfnV f = some v) : CallR X v (CRs X.K (bltW f)) := by
  cases f <;> first | (cases h; done) | skip
  · cases h; exact cr_len
  · cases h; exact cr_listS hc
  · cases h; exact cr_tupleS
  · cases h; exact cr_intS
  · cases h; exact cr_absS
  · cases h; exact cr_maxS hc
  · cases h; exact cr_minS hc
  · cases h; exact cr_sortedS hc hu
  · cases h; exact cr_sumS hc
  · cases h; exact cr_allS hc
  · cases h; exact cr_anyS hc
  · cases h; exact cr_tupdS
/-! ### methods -/
/-- the receiver's type, where the method is called -/
def mfnT : Mfn → Option (String × Str × String)
  | .append => some ("list", "append", "list.append")
  | .extend => some ("list", "extend", "list.extend")
  | .pop => some ("list", "pop", "list.pop")
  | .popAt => some ("list", "pop", "list.pop")
  | .index => some ("list", "index", "list.index")
  | .split => some ("str", "split", "str.split")
  | _ => none
theorem mt_appendS : MtR X "list.append" (MRs X.K (mthW .append)) := by
  intro pins s σ H x xs v us Q I r rs h
  obtain ⟨a, bs, M, Qu, S, ra, rb, hf, c⟩ := h
  unfold mthW at hf
  split at hf <;> first | (rename_i e; cases e; done) | skip
  · obtain ⟨ws, h1, h2, q⟩ := hf
    obtain ⟨y, rfl, ry⟩ := vals1R rb
    obtain ⟨vs, e, rl⟩ := S _ _ h1
    cases ra
    exact mt_append pins s σ H _ _ v us Q I r rs ⟨_, vs, y, rfl, rfl, e, by rw [rl.length]; exact lt_line h2, c.mutL S h1 (rl.append (.cons ry .nil)) .non q⟩
  · exact hf.elim
theorem mt_extendS : MtR X "list.extend" (MRs X.K (mthW .extend)) := by
  intro pins s σ H x xs v us Q I r rs h
  obtain ⟨a, bs, M, Qu, S, ra, rb, hf, c⟩ := h
  unfold mthW at hf
  split at hf <;> first | (rename_i e; cases e; done) | skip
  · obtain ⟨ws, zs, h1, h2, h3, q⟩ := hf
    obtain ⟨y, rfl, ry⟩ := vals1R rb
    obtain ⟨vs, e, rl⟩ := S _ _ h1
    obtain ⟨ys, e2, rl2⟩ := S _ _ h2
    cases ra; cases ry
    exact mt_extend pins s σ H _ _ v us Q I r rs ⟨_, _, vs, ys, rfl, rfl, e, e2, by rw [rl.length, rl2.length]; exact le_line h3, c.mutL S h1 (rl.append rl2) .non q⟩
  · exact hf.elim
theorem mt_popS : MtR X "list.pop" (MRs X.K (mthW .pop)) := by
  intro pins s σ H x xs v us Q I r rs h
  obtain ⟨a, bs, M, Qu, S, ra, rb, hf, c⟩ := h
  unfold mthW at hf
  split at hf <;> first | (rename_i e; cases e; done) | skip
  · obtain ⟨ws, y, h1, h2, q⟩ := hf
    cases rb
    obtain ⟨vs, e, rl⟩ := S _ _ h1
    obtain ⟨z, e2, rz⟩ := rl.get h2
    cases ra
    exact mt_pop pins s σ H _ _ v us Q I r rs ⟨_, vs, z, rfl, rfl, e, by rw [rl.length]; exact e2, c.mutL S h1 rl.dropLast rz q⟩
  · exact hf.elim
theorem mt_popAtS : MtR X "list.pop" (MRs X.K (mthW .popAt)) := by
  intro pins s σ H x xs v us Q I r rs h
  obtain ⟨a, bs, M, Qu, S, ra, rb, hf, c⟩ := h
  unfold mthW at hf
  split at hf <;> first | (rename_i e; cases e; done) | skip
  · obtain ⟨ws, k, y, h1, h2, h3, h4, q⟩ := hf
    obtain ⟨y2, rfl, ry⟩ := vals1R rb
    obtain ⟨vs, e, rl⟩ := S _ _ h1
    obtain ⟨z, e2, rz⟩ := rl.get h4
    obtain ⟨e3, e4, e5, e6⟩ := ixN_seq h3
    have hl : LIM = 100000 := rfl
    cases ra; cases ry
    exact mt_popAt pins s σ H _ _ v us Q I r rs ⟨_, vs, _, k, z, rfl, rfl, e, by omega, by omega, by rw [rl.length]; exact e3, e2, c.mutL S h1 (rl.eraseIdx k) rz q⟩
  · exact hf.elim
theorem mt_indexS (hu : X.A.units + 66 < cLine) : MtR X "list.index" (MRs X.K (mthW .index)) := by
  intro pins s σ H x xs v us Q I r rs h
  obtain ⟨a, bs, M, Qu, S, ra, rb, hf, c⟩ := h
  unfold mthW at hf
  split at hf <;> first | (rename_i e; cases e; done) | skip
  · rename_i y _
    obtain ⟨ws, j, h1, h2, h3, h4, h5, q⟩ := hf
    obtain ⟨y2, rfl, ry⟩ := vals1R rb
    cases ra
    refine mt_indexD (by omega) pins s σ H _ _ v us Q I r rs ⟨_, y2, pd y, pdL ws, j, pd y, rfl, rfl, okL_dp S h1 h3, ok_dp 60 y y2 h2 ry, okL_shaped h3, ok_shaped h2 (by decide), ?_, ?_, ?_, c.at_ S (.int _) q⟩
    · rw [pdL_map, List.getElem?_map, h4]
      rfl
    · rw [ok_eqv 60 y 60 y h2 h2]
      exact decide_eq_true rfl
    · intro m z' hm hz
      rw [pdL_map, List.getElem?_map] at hz
      cases hw : ws[m]? with
      | none => rw [hw] at hz; cases hz
      | some w =>
        rw [hw] at hz
        cases hz
        rw [ok_eqv 59 w 60 y (okL_all h3 w (List.mem_of_getElem? hw)) h2]
        exact decide_eq_false fun e => h5 m hm (by rw [hw, e])
  · exact hf.elim
theorem mt_splitS : MtR X "str.split" (MRs X.K (mthW .split)) := by
  intro pins s σ H x xs v us Q I r rs h
  obtain ⟨a, bs, M, Qu, S, ra, rb, hf, c⟩ := h
  unfold mthW at hf
  split at hf <;> first | (rename_i e; cases e; done) | skip
  · obtain ⟨h1, h2, q⟩ := hf
    obtain ⟨y, rfl, ry⟩ := vals1R rb
    cases ra; cases ry
    exact mt_split pins s σ H _ _ v us Q I r rs ⟨_, _, rfl, rfl, h1, le_line h2, fun p hp => c.lst S (RelL.strs _) q hp⟩
  · exact hf.elim
/-! ### isinstance -/
def IsS (K : Fg) (t : String) : V → Hp → (Bool → Hp → Prop) → Prop := fun x H Q => ∃ a M Qu, Sim K H M ∧ Rel K H x a ∧ isTyW a t M Qu ∧ ContB K H M Qu Q
def tyOk (t : String) : Bool := t == "tuple" || t == "str" || t == "int" || t == "bool" || t == "list"
theorem isTy_of {K : Fg} {t : String} {x : V} {H : Hp} {Q : Bool → Hp → Prop} (ht : tyOk t = true) (h : IsS K t x H Q) : ∃ ty b, TyX K H x ty ∧ PySem.W.kitOne K ty (.type t) = some b ∧ Q b H := by
  obtain ⟨a, M, Qu, S, r, hf, c⟩ := h
  have ht2 : t = "tuple" ∨ t = "str" ∨ t = "int" ∨ t = "bool" ∨ t = "list" := by
    unfold tyOk at ht
    simp only [Bool.or_eq_true, beq_iff_eq] at ht
    rcases ht with (((h | h) | h) | h) | h
    · exact .inl h
    · exact .inr (.inl h)
    · exact .inr (.inr (.inl h))
    · exact .inr (.inr (.inr (.inl h)))
    · exact .inr (.inr (.inr (.inr h)))
  unfold isTyW at hf
  split at hf
  · cases r
    refine ⟨_, _, .base .non, ?_, c _ _ _ (Stp.refl H M) S hf⟩
    rcases ht2 with rfl | rfl | rfl | rfl | rfl <;> exact kit_ty (by decide +kernel)
  · cases r
    refine ⟨_, _, .base (.bl _), ?_, c _ _ _ (Stp.refl H M) S hf⟩
    rcases ht2 with rfl | rfl | rfl | rfl | rfl <;> exact kit_ty (by decide +kernel)
  · cases r
    refine ⟨_, _, .base (.int _), ?_, c _ _ _ (Stp.refl H M) S hf⟩
    rcases ht2 with rfl | rfl | rfl | rfl | rfl <;> exact kit_ty (by decide +kernel)
  · cases r
    refine ⟨_, _, .base (.str _), ?_, c _ _ _ (Stp.refl H M) S hf⟩
    rcases ht2 with rfl | rfl | rfl | rfl | rfl <;> exact kit_ty (by decide +kernel)
  · cases r with
    | tup t1 r1 =>
      refine ⟨_, _, .base (.tup t1), ?_, c _ _ _ (Stp.refl H M) S hf⟩
      rcases ht2 with rfl | rfl | rfl | rfl | rfl <;> exact kit_ty (by decide +kernel)
  · cases r with
    | dtp t1 r1 =>
      obtain ⟨o1, e1, _⟩ := t1
      refine ⟨_, _, .fTuple e1, ?_, c _ _ _ (Stp.refl H M) S hf⟩
      rcases ht2 with rfl | rfl | rfl | rfl | rfl <;> exact kit_ty (by decide +kernel)
  · obtain ⟨us, h1, q⟩ := hf
    obtain ⟨vs, e, rl⟩ := S _ _ h1
    cases r
    refine ⟨_, _, .base (.lst e), ?_, c _ _ _ (Stp.refl H M) S q⟩
    rcases ht2 with rfl | rfl | rfl | rfl | rfl <;> exact kit_ty (by decide +kernel)
  · exact hf.elim
end
end Pl

set_option maxHeartbeats 4000000
/-! expressions: the text against the small syntax -/
namespace Pl
open PySem L2
def RelS (K : Fg) (H : Hp) (σ : L2.St) (σu : SU) : Prop := σ.length = σu.length ∧ ∀ (i : Nat) (u : U), σu[i]? = some (some u) → ∃ v, σ[i]? = some (some v) ∧ Rel K H v u
theorem RelS.stp {K : Fg} {H H' : Hp} {M M' : Hm} {σ : L2.St} {σu : SU} (S : Sim K H M) (t : Stp H M H' M') (h : RelS K H σ σu) : RelS K H' σ σu :=
  ⟨h.1, fun i u e => let ⟨v, a, b⟩ := h.2 i u e; ⟨v, a, b.stp S t⟩⟩
theorem RelS.set {K : Fg} {H : Hp} {σ : L2.St} {σu : SU} {v : V} {u : U} (h : RelS K H σ σu) (r : Rel K H v u) (i : Nat) : RelS K H (σ.set i (some v)) (σu.set i (some u)) :=
  ⟨by rw [List.length_set, List.length_set, h.1], fun j w e => by
    by_cases hj : i = j
    · subst hj
      by_cases hl : i < σu.length
      · rw [List.getElem?_set_self hl] at e
        cases e
        exact ⟨v, List.getElem?_set_self (by rw [h.1]; exact hl), r⟩
      · rw [List.getElem?_eq_none (by rw [List.length_set]; omega)] at e
        cases e
    · rw [List.getElem?_set_ne hj] at e ⊢
      exact h.2 j w e⟩
theorem RelS.wipe {K : Fg} {H : Hp} {σ : L2.St} {σu : SU} (h : RelS K H σ σu) : ∀ vs : List Nat, RelS K H (L2.wipe σ vs) (wipU σu vs)
  | [] => h
  | v :: vs => by
    have ih := RelS.wipe h vs
    unfold L2.wipe wipU
    refine ⟨by rw [List.length_set, List.length_set, ih.1], fun j w e => ?_⟩
    by_cases hj : v = j
    · subst hj
      by_cases hl : v < (wipU σu vs).length
      · rw [List.getElem?_set_self hl] at e
        cases e
      · rw [List.getElem?_eq_none (by rw [List.length_set]; omega)] at e
        cases e
    · rw [List.getElem?_set_ne hj] at e ⊢
      exact ih.2 j w e

def EvE (K : Fg) (t : TE) (f : WE) : Prop := ∀ (σ : L2.St) (H : Hp) (σu : SU) (M : Hm) (Qu : QU) (Q : VK), RelS K H σ σu → Sim K H M → f σu M Qu → Cont K H M Qu Q → t σ H Q
def EvT (K : Fg) (t : TT) (f : WT) : Prop := ∀ (σ : L2.St) (H : Hp) (σu : SU) (M : Hm) (Qu : Bool → Hm → Prop) (Q : Bool → Hp → Prop), RelS K H σ σu → Sim K H M → f σu M Qu → ContB K H M Qu Q → t σ H Q
def EvL (K : Fg) (t : TA) (f : WL) : Prop := ∀ (σ : L2.St) (H : Hp) (σu : SU) (M : Hm) (Qu : List U → Hm → Prop) (Q : List V → Hp → Prop), RelS K H σ σu → Sim K H M → f σu M Qu → ContL K H M Qu Q → t σ H Q
def ContO (K : Fg) (H : Hp) (M : Hm) (Qu : Option Int → Hm → Prop) (Q : Option Int → Hp → Prop) : Prop := ∀ o H' M', Stp H M H' M' → Sim K H' M' → Qu o M' → Q o H'
def EvO (K : Fg) (t : TO) (f : WO) : Prop := ∀ (σ : L2.St) (H : Hp) (σu : SU) (M : Hm) (Qu : Option Int → Hm → Prop) (Q : Option Int → Hp → Prop), RelS K H σ σu → Sim K H M → f σu M Qu → ContO K H M Qu Q → t σ H Q

def SE1 (X : Cx) (f : WE) (x : Expr) : Prop := ∃ t, PE X x t ∧ EvE X.K t f
def ST (X : Cx) (f : WT) (x : Expr) : Prop := ∃ t, PT X x t ∧ EvT X.K t f
def SE (X : Cx) (W : Wp) (x : Expr) : Prop := SE1 X W.e x ∧ ST X W.t x
def SA (X : Cx) (f : WL) (es : List Expr) : Prop := ∃ t, PA X es t ∧ EvL X.K t f
def SO (X : Cx) (f : WO) (e : Option Expr) : Prop := ∃ t, PO X e t ∧ EvO X.K t f

/-- its test is its value's truth -/
def plainT : Expr → Bool
  | .UnaryOp .Not _ _ => false
  | .BoolOp .. => false
  | .IfExp .. => false
  | .Compare .. => false
  | _ => true
section
variable {X : Cx}
theorem plainT_eq {e : Expr} (h : plainT e = true) (whole : Sem Value) : isTrue e X.env whole = (do let v ← whole; standAt e.pos; holding [v] (truthy v)) := by
  cases e with
  | UnaryOp op _ _ => cases op <;> first | (cases h; done) | rfl
  | BoolOp _ _ _ => cases h
  | IfExp _ _ _ _ => cases h
  | Compare _ _ _ _ => cases h
  | _ => rfl
theorem SE.ofE {f : WE} {x : Expr} (hx : plainT x = true) (h : SE1 X f x) : SE X (.ofE f) x := by
  refine ⟨h, ?_⟩
  obtain ⟨t, p, q⟩ := h
  refine ⟨_, pt_truth p (plainT_eq hx), fun σ H σu M Qu Q rs S hf c => ?_⟩
  exact q σ H σu M _ _ rs S hf fun v H' u M' st S' r hq => tru_of ⟨u, M', Qu, S', r, hq, c.tr S st⟩
theorem se_var {i : Nat} {x : Str} {pos : Pos} (hN : X.N[i]? = some x) (hv : Vis X.env.scope x) (hd : (x == ("__debug__" : Str)) = false) (hcd : (x == ("__classdict__" : Str)) = false) :
    SE1 X (fun σ M Q => ∃ u, σ[i]? = some (some u) ∧ Q u M) (.Name x pos) :=
  ⟨tVar i, pe_var hN hv hd hcd, fun σ H σu M Qu Q rs S ⟨u, e, q⟩ c =>
    let ⟨v, e1, r⟩ := rs.2 i u e
    ⟨v, e1, c.at_ S r q⟩⟩
theorem se_int {i : Int} {k : Nat} {pos : Pos} : SE1 X (fun _ M Q => Q (.int i) M) (.Constant (.int i) k pos) := ⟨_, pe_int, fun _ _ _ _ _ _ _ S q c => c.at_ S (.int i) q⟩
theorem se_str {i : Str} {k : Nat} {pos : Pos} : SE1 X (fun _ M Q => Q (.str i) M) (.Constant (.str i) k pos) := ⟨_, pe_str, fun _ _ _ _ _ _ _ S q c => c.at_ S (.str i) q⟩
theorem se_bl {i : Bool} {k : Nat} {pos : Pos} : SE1 X (fun _ M Q => Q (.bl i) M) (.Constant (.bool i) k pos) := ⟨_, pe_bl, fun _ _ _ _ _ _ _ S q c => c.at_ S (.bl i) q⟩
theorem se_non {k : Nat} {pos : Pos} : SE1 X (fun _ M Q => Q .non M) (.Constant .none k pos) := ⟨_, pe_non, fun _ _ _ _ _ _ _ S q c => c.at_ S .non q⟩
theorem sa_nil : SA X (fun _ M Q => Q [] M) [] := ⟨_, pa_nil, fun _ H _ M _ _ _ S q c => c _ _ _ _ (Stp.refl H M) S .nil q⟩
def isStar : Expr → Bool
  | .Starred .. => true
  | _ => false
theorem star_cons {e : Expr} {es : List Expr} {env : Env} (h : isStar e = false) : starEach (e :: es) env = (false, eval e env) :: starEach es env := by
  cases e <;> first | (cases h; done) | rfl
theorem star_plain {env : Env} {pos : Pos} : ∀ {es : List Expr}, es.all (fun e => !isStar e) = true → (backTo pos (starEach es env)).any (·.1) = false
  | [], _ => rfl
  | e :: es, h => by
    rw [List.all_cons, Bool.and_eq_true] at h
    have h1 : isStar e = false := by simpa using h.1
    rw [star_cons h1]
    exact star_plain (es := es) h.2
theorem sa_cons {e : Expr} {es : List Expr} {f : WE} {g : WL} (hs : isStar e = false) (h1 : SE1 X f e) (h2 : SA X g es) : SA X (fun σ M Q => f σ M fun x M1 => g σ M1 fun xs M2 => Q (x :: xs) M2) (e :: es) := by
  obtain ⟨t1, p1, q1⟩ := h1
  obtain ⟨t2, p2, q2⟩ := h2
  refine ⟨_, pa_cons p1 p2 (star_cons hs), fun σ H σu M Qu Q rs S hf c => ?_⟩
  refine q1 σ H σu M _ _ rs S hf fun v H1 u M1 st S1 r hq => ?_
  refine q2 σ H1 σu M1 _ _ (rs.stp S st) S1 hq fun vs H2 us M2 st2 S2 rl hq2 => ?_
  exact c _ _ _ _ (st.trans S st2) S2 (.cons (r.stp S1 st2) rl) hq2
theorem se_tup {es : List Expr} {g : WL} {k : Nat} {pos : Pos} (h : SA X g es) : SE1 X (fun σ M Q => g σ M fun xs M1 => xs.length ≤ LIM ∧ Q (.tup xs) M1) (.Tuple es k pos) := by
  obtain ⟨t, p, q⟩ := h
  refine ⟨_, pe_tup p, fun σ H σu M Qu Q rs S hf c => ?_⟩
  refine q σ H σu M _ _ rs S hf fun vs H1 us M1 st S1 r hq => ?_
  exact ⟨by rw [r.length]; exact le_line hq.1, fun n hn => (c.tr S st).tup S1 r hq.2 hn⟩
/-- a written tuple, of which is known that it has no dict -/
def tTupD (t : TA) : TE := fun σ H Q => t σ H fun xs H1 => xs.length ≤ sizeLine ∧ ∀ p o, H1 p = none → o.dict = none → Q (.ref p) (upd H1 p (.frz o (.tup xs)))
theorem pe_tupD {es : List Expr} {t : TA} {pos : Pos} {x1} (h : PA X es t) : PE X (.Tuple es x1 pos) (tTupD t) := by
  refine ⟨fun pins s σ H Q I hq => ?_⟩
  refine wpAny_Tuple_spliced (thn (h.run pos pins s σ H _ I hq) fun us s1 ⟨xs, H1, I1, r, z, q⟩ => ⟨by rw [← r.length]; exact z, ?_⟩)
  have hf : H1 s1.heap.objs.size = none := I1.hok.fresh (Nat.le_refl _)
  refine ⟨.ref s1.heap.objs.size, upd H1 s1.heap.objs.size (.frz { cls := .type "tuple", data := .seq us.toArray } (.tup xs)), I1.laid (t' := s1.toks) (fun b u e => Heap.get?_push_of_some _ e) (Nat.le_refl _) ?_, rfl, q _ _ hf rfl⟩
  exact ⟨Heap.get?_push_size _ rfl, z, us, r, PyProof.Rows.IsTup.new _ _⟩
theorem se_dtup {es : List Expr} {g : WL} {k : Nat} {pos : Pos} (h : SA X g es) : SE1 X (fun σ M Q => g σ M fun xs M1 => xs.length ≤ LIM ∧ Q (.dtp xs) M1) (.Tuple es k pos) := by
  obtain ⟨t, p, q⟩ := h
  refine ⟨_, pe_tupD p, fun σ H σu M Qu Q rs S hf c => ?_⟩
  refine q σ H σu M _ _ rs S hf fun vs H1 us M1 st S1 r hq => ?_
  refine ⟨by rw [r.length]; exact le_line hq.1, fun n o hn ho => ?_⟩
  have st2 : Stp H1 M1 (upd H1 n (.frz o (.tup vs))) M1 := Stp.newT S1 hn
  have S2 : Sim X.K (upd H1 n (.frz o (.tup vs))) M1 := S1.to st2 fun a o' e => .inl ⟨e, upd_ne fun z => by
    have q := S1.fr hn
    rw [z, q] at e
    cases e⟩
  exact c _ _ (.dtp us) M1 (st.trans S st2) S2 (.dtp ⟨_, upd_same, ho⟩ (r.stp S1 st2)) hq.2
theorem se_lst {es : List Expr} {g : WL} {pos : Pos} (h : SA X g es) : SE1 X (fun σ M Q => g σ M fun xs M1 => xs.length ≤ LIM ∧ ∀ p, M1 p = none → Q (.ref p) (um M1 p (.lst xs))) (.List es pos) := by
  obtain ⟨t, p, q⟩ := h
  refine ⟨_, pe_lst p, fun σ H σu M Qu Q rs S hf c => ?_⟩
  refine q σ H σu M _ _ rs S hf fun vs H1 us M1 st S1 r hq => ?_
  exact ⟨by rw [r.length]; exact le_line hq.1, fun n hn => (c.tr S st).lst S1 r hq.2 hn⟩
theorem se_dnew {t : Bool} {pos : Pos} : SE1 X (fun _ M Q => ∀ p, M p = none → Q (.ref p) (um M p (.dct false t []))) (.Dict [] [] pos) := by
  cases t with
  | false =>
    refine ⟨_, pe_dnewK, fun σ H σu M Qu Q rs S hf c p hp => ?_⟩
    exact c _ _ (.ref p) _ (Stp.new S hp) (S.new (m := .dct false false []) hp ⟨[], upd_same, .nil⟩) (.ref p) (hf p (S.fr hp))
  | true =>
    refine ⟨_, pe_dnewT, fun σ H σu M Qu Q rs S hf c p hp => ?_⟩
    exact c _ _ (.ref p) _ (Stp.new S hp) (S.new (m := .dct false true []) hp ⟨[], upd_same, .nil⟩) (.ref p) (hf p (S.fr hp))
theorem two {f g : WE} {ta tb : TE} (q1 : EvE X.K ta f) (q2 : EvE X.K tb g) {h : U → U → Hm → QU → Prop} : EvE X.K (tOp (R2s X.K h) ta tb) (fun σ M Q => f σ M fun x M1 => g σ M1 fun y M2 => h x y M2 Q) := fun σ H σu M Qu Q rs S hf c => by
  refine q1 σ H σu M _ _ rs S hf fun v H1 u M1 st S1 r hq => ?_
  refine q2 σ H1 σu M1 _ _ (rs.stp S st) S1 hq fun v2 H2 u2 M2 st2 S2 r2 hq2 => ?_
  exact ⟨u, u2, M2, Qu, S2, r.stp S1 st2, r2, hq2, c.tr S (st.trans S st2)⟩
theorem se_bin {op : Bop} {a b : Expr} {f g : WE} {pos : Pos} (h1 : SE1 X f a) (h2 : SE1 X g b) : SE1 X (fun σ M Q => f σ M fun x M1 => g σ M1 fun y M2 => binW op x y M2 Q) (.BinOp a (bopOf op) b pos) := by
  obtain ⟨t1, p1, q1⟩ := h1
  obtain ⟨t2, p2, q2⟩ := h2
  exact ⟨_, pe_op (op_binS op) p1 p2, two q1 q2⟩
theorem se_neg {a : Expr} {f : WE} {pos : Pos} (h1 : SE1 X f a) : SE1 X (fun σ M Q => f σ M fun x M1 => ∃ i, x = .int i ∧ Q (.int (-i)) M1) (.UnaryOp .USub a pos) := by
  obtain ⟨t1, p1, q1⟩ := h1
  refine ⟨_, pe_un un_neg p1, fun σ H σu M Qu Q rs S hf c => ?_⟩
  refine q1 σ H σu M _ _ rs S hf fun v H1 u M1 st S1 r hq => ?_
  obtain ⟨i, rfl, q⟩ := hq
  cases r
  exact ⟨i, rfl, (c.tr S st).at_ S1 (.int _) q⟩
theorem bl_same {Qu : Bool → Hm → Prop} : (fun (b : Bool) (M1 : Hm) => ∃ b', U.bl b = .bl b' ∧ Qu b' M1) = Qu := by
  funext b M1
  exact propext ⟨fun ⟨b', e, q⟩ => by cases e; exact q, fun q => ⟨b, rfl, q⟩⟩
/-- from a value that is a bool to a test -/
theorem ev_test {f : WT} {t : TE} (q : EvE X.K t (fun σ M Q => f σ M fun b M1 => Q (.bl b) M1)) : EvT X.K (tTest t) f := fun σ H σu M Qu Q rs S hf c => by
  refine q σ H σu M (fun u M' => ∃ b, u = .bl b ∧ Qu b M') _ rs S ?_ fun v H' u M' st S' r hq => ?_
  · show f σu M (fun (b : Bool) (M1 : Hm) => ∃ b', U.bl b = .bl b' ∧ Qu b' M1)
    rw [bl_same]
    exact hf
  · obtain ⟨b, rfl, hq⟩ := hq
    cases r
    exact ⟨b, rfl, c _ _ _ st S' hq⟩
theorem se_cmp {op : Cop} {a b : Expr} {f g : WE} {pos : Pos} (hu : X.A.units + 65 < cLine) (h1 : SE1 X f a) (h2 : SE1 X g b) (hm : behindInMarks (copOf op) b = false) :
    SE X (.ofB fun σ M Q => f σ M fun x M1 => g σ M1 fun y M2 => cmpW op x y M2 Q) (.Compare a [copOf op] [b] pos) := by
  obtain ⟨t1, p1, q1⟩ := h1
  obtain ⟨t2, p2, q2⟩ := h2
  have ev : EvE X.K (tOp (R2s X.K (asB (cmpW op))) t1 t2) (fun σ M Q => f σ M fun x M1 => g σ M1 fun y M2 => cmpW op x y M2 fun b M => Q (.bl b) M) := two q1 q2
  exact ⟨⟨_, pe_cmpR (op_cmpS hu op) p1 p2 hm, ev⟩, ⟨_, pt_cmpR (op_cmpS hu op) p1 p2 hm, ev_test ev⟩⟩
theorem se_chain {o1 o2 : Cop} {a b d : Expr} {f g h : WE} {pos : Pos} (hu : X.A.units + 65 < cLine) (h1 : SE1 X f a) (h2 : SE1 X g b) (h3 : SE1 X h d) (hm : lastMarks [copOf o1, copOf o2] [b, d] = false) :
    SE X (.ofB fun σ M Q => f σ M fun x M1 => g σ M1 fun y M2 => cmpW o1 x y M2 fun k M3 => if k = true then h σ M3 fun z M4 => cmpW o2 y z M4 Q else Q false M3) (.Compare a [copOf o1, copOf o2] [b, d] pos) := by
  obtain ⟨t1, p1, q1⟩ := h1
  obtain ⟨t2, p2, q2⟩ := h2
  obtain ⟨t3, p3, q3⟩ := h3
  have ev : EvE X.K (tChain (R2s X.K (asB (cmpW o1))) (R2s X.K (asB (cmpW o2))) t1 t2 t3) (fun σ M Q => f σ M fun x M1 => g σ M1 fun y M2 => cmpW o1 x y M2 fun k M3 => if k = true then h σ M3 fun z M4 => cmpW o2 y z M4 fun b M => Q (.bl b) M else Q (.bl false) M3) := fun σ H σu M Qu Q rs S hf c => by
    refine q1 σ H σu M _ _ rs S hf fun v H1 u M1 st S1 r hq => ?_
    refine q2 σ H1 σu M1 _ _ (rs.stp S st) S1 hq fun v2 H2 u2 M2 st2 S2 r2 hq2 => ?_
    refine ⟨u, u2, M2, fun b' M3 => ∃ k, b' = .bl k ∧ (if k = true then h σu M3 fun z M4 => cmpW o2 u2 z M4 fun b M => Qu (.bl b) M else Qu (.bl false) M3), S2, r.stp S1 st2, r2, ?_, ?_⟩
    · have e : (fun (k : Bool) (M3 : Hm) => ∃ k', U.bl k = .bl k' ∧ (if k' = true then h σu M3 fun z M4 => cmpW o2 u2 z M4 fun b M => Qu (.bl b) M else Qu (.bl false) M3)) = (fun k M3 => if k = true then h σu M3 fun z M4 => cmpW o2 u2 z M4 fun b M => Qu (.bl b) M else Qu (.bl false) M3) := by
        funext k M3
        exact propext ⟨fun ⟨k', e, q⟩ => by cases e; exact q, fun q => ⟨k, rfl, q⟩⟩
      show cmpW o1 u u2 M2 _
      rw [e]
      exact hq2
    · intro v3 H3 u3 M3 st3 S3 r3 hq3
      obtain ⟨k, rfl, hq3⟩ := hq3
      cases r3
      refine ⟨k, rfl, ?_⟩
      cases k with
      | false => exact c _ _ _ _ ((st.trans S st2).trans S st3) S3 (.bl _) hq3
      | true =>
        refine q3 σ H3 σu M3 _ _ (rs.stp S ((st.trans S st2).trans S st3)) S3 hq3 fun v4 H4 u4 M4 st4 S4 r4 hq4 => ?_
        exact ⟨u2, u4, M4, Qu, S4, (r2.stp S2 st3).stp S3 st4, r4, hq4, c.tr S (((st.trans S st2).trans S st3).trans S st4)⟩
  refine ⟨⟨_, pe_chain (op_cmpS hu o1) (op_cmpS hu o2) p1 p2 p3 hm, ?_⟩, ⟨_, pt_chain (op_cmpS hu o1) (op_cmpS hu o2) p1 p2 p3 hm, ev_test ?_⟩⟩
  · intro σ H σu M Qu Q rs S hf c
    exact ev σ H σu M Qu Q rs S hf c
  · intro σ H σu M Qu Q rs S hf c
    exact ev σ H σu M Qu Q rs S hf c
theorem rel_non {K : Fg} {H : Hp} {v : V} {u : U} (r : Rel K H v u) : decide (v = .non) = decide (u = .non) := by
  cases r <;> simp
theorem ev_isN {f : WE} {t : TE} (q1 : EvE X.K t f) : EvE X.K (tIsN t) (fun σ M Q => f σ M fun x M1 => Q (.bl (decide (x = .non))) M1) := fun σ H σu M Qu Q rs S hf c => by
  refine q1 σ H σu M _ _ rs S hf fun v H1 u M1 st S1 r hq => ?_
  rw [rel_non r]
  exact c _ _ _ _ st S1 (.bl _) hq
theorem ev_notN {f : WE} {t : TE} (q1 : EvE X.K t f) : EvE X.K (tNotN t) (fun σ M Q => f σ M fun x M1 => Q (.bl (!decide (x = .non))) M1) := fun σ H σu M Qu Q rs S hf c => by
  refine q1 σ H σu M _ _ rs S hf fun v H1 u M1 st S1 r hq => ?_
  rw [rel_non r]
  exact c _ _ _ _ st S1 (.bl _) hq
theorem se_isN {a : Expr} {f : WE} {k : Nat} {p1 pos : Pos} (h1 : SE1 X f a) : SE X (.ofB fun σ M Q => f σ M fun x M1 => Q (decide (x = .non)) M1) (.Compare a [.Is] [.Constant .none k p1] pos) := by
  obtain ⟨t1, p1, q1⟩ := h1
  exact ⟨⟨_, pe_cmp (pc_isN p1) rfl, ev_isN q1⟩, ⟨_, pt_cmp (pc_isN p1) rfl, ev_test (f := fun σ M Q => f σ M fun x M1 => Q (decide (x = .non)) M1) (ev_isN q1)⟩⟩
theorem se_notN {a : Expr} {f : WE} {k : Nat} {p1 pos : Pos} (h1 : SE1 X f a) : SE X (.ofB fun σ M Q => f σ M fun x M1 => Q (!decide (x = .non)) M1) (.Compare a [.IsNot] [.Constant .none k p1] pos) := by
  obtain ⟨t1, p1, q1⟩ := h1
  exact ⟨⟨_, pe_cmp (pc_notN p1) rfl, ev_notN q1⟩, ⟨_, pt_cmp (pc_notN p1) rfl, ev_test (f := fun σ M Q => f σ M fun x M1 => Q (!decide (x = .non)) M1) (ev_notN q1)⟩⟩
theorem se_isB {neg b : Bool} {a : Expr} {f : WE} {k : Nat} {p1 pos : Pos} (h1 : SE1 X f a) :
    SE X (.ofB fun σ M Q => f σ M fun x M1 => ∃ c, x = .bl c ∧ Q (if neg then !decide (c = b) else decide (c = b)) M1) (.Compare a [if neg then .IsNot else .Is] [.Constant (.bool b) k p1] pos) := by
  obtain ⟨t1, p1, q1⟩ := h1
  cases neg with
  | false =>
    have ev : EvE X.K (tOp rIsB t1 (tC (.bl b))) (fun σ M Q => f σ M fun x M1 => ∃ c, x = .bl c ∧ Q (.bl (decide (c = b))) M1) := fun σ H σu M Qu Q rs S hf c => by
      refine q1 σ H σu M _ _ rs S hf fun v H1 u M1 st S1 r hq => ?_
      obtain ⟨d, rfl, q⟩ := hq
      cases r
      exact ⟨d, b, rfl, rfl, c _ _ _ _ st S1 (.bl _) q⟩
    exact ⟨⟨_, pe_cmpR op_isBl p1 pe_bl (nomark _), ev⟩, ⟨_, pt_cmpR op_isBl p1 pe_bl (nomark _), ev_test (f := fun σ M Q => f σ M fun x M1 => ∃ c, x = .bl c ∧ Q (decide (c = b)) M1) ev⟩⟩
  | true =>
    have ev : EvE X.K (tOp rNotB t1 (tC (.bl b))) (fun σ M Q => f σ M fun x M1 => ∃ c, x = .bl c ∧ Q (.bl (!decide (c = b))) M1) := fun σ H σu M Qu Q rs S hf c => by
      refine q1 σ H σu M _ _ rs S hf fun v H1 u M1 st S1 r hq => ?_
      obtain ⟨d, rfl, q⟩ := hq
      cases r
      exact ⟨d, b, rfl, rfl, c _ _ _ _ st S1 (.bl _) q⟩
    exact ⟨⟨_, pe_cmpR op_notBl p1 pe_bl (nomark _), ev⟩, ⟨_, pt_cmpR op_notBl p1 pe_bl (nomark _), ev_test (f := fun σ M Q => f σ M fun x M1 => ∃ c, x = .bl c ∧ Q (!decide (c = b)) M1) ev⟩⟩
theorem se_not {a : Expr} {W : Wp} {pos : Pos} (h : SE X W a) : SE X ⟨fun σ M Q => bW W.e σ M fun b M1 => Q (.bl (!b)) M1, fun σ M Q => W.t σ M fun b M1 => Q (!b) M1, fun _ _ _ => False, fT, fT, fE, fE, fI⟩ (.UnaryOp .Not a pos) := by
  obtain ⟨⟨t1, p1, q1⟩, ⟨t2, p2, q2⟩⟩ := h
  refine ⟨⟨_, pe_not p1, fun σ H σu M Qu Q rs S hf c => ?_⟩, ⟨_, pt_not p2, fun σ H σu M Qu Q rs S hf c => ?_⟩⟩
  · refine q1 σ H σu M _ _ rs S hf fun v H1 u M1 st S1 r hq => ?_
    obtain ⟨b, rfl, q⟩ := hq
    cases r
    exact ⟨b, rfl, c _ _ _ _ st S1 (.bl _) q⟩
  · exact q2 σ H σu M _ _ rs S hf fun b H1 M1 st S1 hq => c _ _ _ st S1 hq
theorem se_ite {c0 a b : Expr} {fc : WT} {f g : WE} {pos : Pos} (hc : ST X fc c0) (h1 : SE1 X f a) (h2 : SE1 X g b) :
    SE1 X (fun σ M Q => fc σ M fun k M1 => if k = true then f σ M1 Q else g σ M1 Q) (.IfExp c0 a b pos) := by
  obtain ⟨t0, p0, q0⟩ := hc
  obtain ⟨t1, p1, q1⟩ := h1
  obtain ⟨t2, p2, q2⟩ := h2
  refine ⟨_, pe_ifExp p0 p1 p2, fun σ H σu M Qu Q rs S hf c => ?_⟩
  refine q0 σ H σu M _ _ rs S hf fun k H1 M1 st S1 hq => ?_
  cases k with
  | true => exact q1 σ H1 σu M1 Qu Q (rs.stp S st) S1 hq (c.tr S st)
  | false => exact q2 σ H1 σu M1 Qu Q (rs.stp S st) S1 hq (c.tr S st)
def notSlice : Expr → Bool
  | .Slice .. => false
  | _ => true
theorem plainIx_of {e : Expr} (h : notSlice e = true) : PlainIx e := fun o i => by
  cases e <;> first | (cases h; done) | rfl
theorem se_ix {a b : Expr} {f g : WE} {pos : Pos} (hu : X.A.units + 1 < cLine) (hs : notSlice b = true) (h1 : SE1 X f a) (h2 : SE1 X g b) : SE1 X (fun σ M Q => f σ M fun x M1 => g σ M1 fun y M2 => ixW x y M2 Q) (.Subscript a b pos) := by
  obtain ⟨t1, p1, q1⟩ := h1
  obtain ⟨t2, p2, q2⟩ := h2
  exact ⟨_, pe_ix (ix_S hu) p1 p2 (plainIx_of hs), two q1 q2⟩
theorem so_none : SO X (fun _ M Q => Q none M) none := ⟨_, po_none, fun σ H σu M Qu Q rs S hf c => c _ _ _ (Stp.refl H M) S hf⟩
theorem so_some {e : Expr} {f : WE} (h : SE1 X f e) : SO X (fun σ M Q => f σ M fun x M1 => ∃ i, x = .int i ∧ Q (some i) M1) (some e) := by
  obtain ⟨t, p, q⟩ := h
  refine ⟨_, po_some p, fun σ H σu M Qu Q rs S hf c => ?_⟩
  refine q σ H σu M _ _ rs S hf fun v H1 u M1 st S1 r hq => ?_
  obtain ⟨i, rfl, q⟩ := hq
  cases r
  exact ⟨i, rfl, c _ _ _ st S1 q⟩
theorem se_slice {a : Expr} {lo hi : Option Expr} {f : WE} {g h : WO} {p2 pos : Pos} (h1 : SE1 X f a) (h2 : SO X g lo) (h3 : SO X h hi) :
    SE1 X (fun σ M Q => f σ M fun x M1 => g σ M1 fun l M2 => h σ M2 fun u M3 => sliceW x l u M3 Q) (.Subscript a (.Slice lo hi none p2) pos) := by
  obtain ⟨t1, p1, q1⟩ := h1
  obtain ⟨t2, p2, q2⟩ := h2
  obtain ⟨t3, p3, q3⟩ := h3
  refine ⟨_, pe_slice sl_S p1 p2 p3, fun σ H σu M Qu Q rs S hf c => ?_⟩
  refine q1 σ H σu M _ _ rs S hf fun v H1 u M1 st S1 r hq => ?_
  refine q2 σ H1 σu M1 _ _ (rs.stp S st) S1 hq fun l H2 M2 st2 S2 hq2 => ?_
  refine q3 σ H2 σu M2 _ _ (rs.stp S (st.trans S st2)) S2 hq2 fun l3 H3 M3 st3 S3 hq3 => ?_
  exact ⟨u, M3, Qu, S3, (r.stp S1 st2).stp S2 st3, hq3, c.tr S ((st.trans S st2).trans S st3)⟩
/-- the promise of a def, said by values -/
def spOf (K : Fg) (g : List U → Hm → QU → Prop) : Sp := fun vs H Q _ => CRs K g vs H Q
theorem ev_call {g : WL} {t : TA} {r : List V → Hp → VK → Prop} {k : List U → Hm → QU → Prop} (q : EvL X.K t g) (hr : ∀ vs H Q, CRs X.K k vs H Q → r vs H Q) : EvE X.K (fun σ H Q => t σ H fun vs H1 => r vs H1 Q) (fun σ M Q => g σ M fun xs M1 => k xs M1 Q) := fun σ H σu M Qu Q rs S hf c => by
  refine q σ H σu M _ _ rs S hf fun vs H1 us M1 st S1 r1 hq => ?_
  exact hr _ _ _ ⟨us, M1, Qu, S1, r1, hq, c.tr S st⟩
theorem se_blt {f : Bfn} {v : Value} {x : Str} {e : Expr} {es : List Expr} {g : WL} {p pos : Pos} (hc : X.calm = true) (hu : X.A.units + 66 < cLine) (hb : bfnV f = some v) (hg : Gl X x) (hm : X.mg x = none) (hv : bootBuiltins x = some v) (hn : x ≠ "__name__") (hdb : (x == ("__debug__" : Str)) = false)
    (hs : (e :: es).all (fun e => !isStar e) = true) (h : SA X g (e :: es)) : SE1 X (fun σ M Q => g σ M fun xs M1 => bltW f xs M1 Q) (.Call (.Name x p) (e :: es) [] pos) := by
  obtain ⟨t, pt, q⟩ := h
  have hs2 : isStar e = false ∧ es.all (fun e => !isStar e) = true := by
    rw [List.all_cons, Bool.and_eq_true] at hs
    exact ⟨by simpa using hs.1, hs.2⟩
  have hr := cr_S (X := X) hc hu hb
  have bl : ∀ id, v = .builtin id → SE1 X (fun σ M Q => g σ M fun xs M1 => bltW f xs M1 Q) (.Call (.Name x p) (e :: es) [] pos) := fun id ev => by
    subst ev
    exact ⟨_, pe_callB hr hg hm hv pt hn hdb (star_cons hs2.1) (star_plain hs2.2), ev_call q fun _ _ _ z => z⟩
  have ty : ∀ id, v = .type id → SE1 X (fun σ M Q => g σ M fun xs M1 => bltW f xs M1 Q) (.Call (.Name x p) (e :: es) [] pos) := fun id ev => by
    subst ev
    exact ⟨_, pe_callTy hr hg hm hv pt hn hdb (star_cons hs2.1) (star_plain hs2.2), ev_call q fun _ _ _ z => z⟩
  cases f <;> first | (cases hb; done) | (cases hb; first | exact bl _ rfl | exact ty _ rfl)
theorem se_call {k : Nat} {f : Addr} {fd : FuncData} {ps : List Str} {x : Str} {e : Expr} {es : List Expr} {g : WL} {c : List U → Hm → QU → Prop} {p pos : Pos} (F : FnOk X.prog X.w X.K X.mg X.base CX0 k f fd ps (spOf X.K c)) (hr : Room k X.A) (hg : Gl X x) (hm : X.mg x = some (.ref f))
    (hk : PySem.W.keepIn X.K (.ref f) = true) (hb : Binds X.K fd ps []) (hdb : (x == ("__debug__" : Str)) = false) (hs : (e :: es).all (fun e => !isStar e) = true) (h : SA X g (e :: es)) :
    SE1 X (fun σ M Q => g σ M fun xs M1 => c xs M1 Q) (.Call (.Name x p) (e :: es) [] pos) := by
  obtain ⟨t, pt, q⟩ := h
  have hs2 : isStar e = false ∧ es.all (fun e => !isStar e) = true := by
    rw [List.all_cons, Bool.and_eq_true] at hs
    exact ⟨by simpa using hs.1, hs.2⟩
  refine ⟨_, pe_call F hr hg hm hk hb .nil pass0 pt hdb (star_cons hs2.1) (star_plain hs2.2), fun σ H σu M Qu Q rs S hf ct => ?_⟩
  refine q σ H σu M _ _ rs S hf fun vs H1 us M1 st S1 r1 hq => ?_
  rw [List.append_nil]
  exact ⟨us, M1, Qu, S1, r1, hq, ct.tr S st⟩
theorem se_call0 {k : Nat} {f : Addr} {fd : FuncData} {ps : List Str} {x : Str} {c : List U → Hm → QU → Prop} {p pos : Pos} (F : FnOk X.prog X.w X.K X.mg X.base CX0 k f fd ps (spOf X.K c)) (hr : Room k X.A) (hg : Gl X x) (hm : X.mg x = some (.ref f))
    (hk : PySem.W.keepIn X.K (.ref f) = true) (hb : Binds X.K fd ps []) (hdb : (x == ("__debug__" : Str)) = false) :
    SE1 X (fun σ M Q => c [] M Q) (.Call (.Name x p) [] [] pos) :=
  ⟨_, pe_call0 F hr hg hm hk hb .nil pass0 hdb, fun σ H σu M Qu Q rs S hf ct => ⟨[], M, Qu, S, .nil, hf, ct⟩⟩
theorem keep_base {o : Expr} {n : Str} {env : Env} (h : (match o with | .Call (.Name id _) [] [] _ => id != "super" | _ => true) = true) : attributeBase o n env (eval o env) = eval o env := by
  unfold attributeBase
  split
  · rename_i id p pos
    have h2 : (id != "super") = true := h
    simp [h2]
  · rfl
end
end Pl

set_option maxHeartbeats 400000
/-! enumerate over a list or a tuple -/
namespace Pl
section
open PySem PySem.W PySem.W.X PyProof.Rows L2
theorem wp_pure_eq {α : Type} {M : Model} {A : Around} {Q : α → Shared → Prop} {E : Value → Shared → Prop} {s : Shared} {m : Sem α} {a : α} (h : m = pure a) (q : Q a s) : wpAny M A m Q E s := by
  rw [h]
  exact wpAny_pure q
theorem wp_ite_any {α : Type} {M : Model} {A : Around} {Q : α → Shared → Prop} {E : Value → Shared → Prop} {s : Shared} {b : Bool} {t e : Sem α} (h1 : wpAny M A t Q E s) (h2 : wpAny M A e Q E s) : wpAny M A (if b = true then t else e) Q E s := by
  cases b
  · exact h2
  · exact h1
theorem meets_enumB {v : Value} {o : Obj} {H : Heap → Prop} (B : Begins v o H) : Meets (Builtin.«enumerate.__new__» { pos := [Value.type "enumerate", v] }) fun x R s => H s.heap ∧ R (.ok (.ret (.ref (s.heap.push o).objs.size))) { s with heap := (s.heap.push o).push ⟨.type "enumerate", none, .fields #[Value.none, Value.bool false, Value.ref s.heap.objs.size, rawInt 0, Value.none, Value.none], #[]⟩ } := by
  refine Meets.of_wp fun prog w A R s h => ?_
  obtain ⟨h1, h⟩ := h
  refine wpAny_bind (wpAny_bind (wpAny_pure (wpAny_ite_false (Eq.refl _) (wpAny_bind (wpAny_of_eq sub_enumerate (wpAny_ite_false (Eq.refl _) (wpAny_pure (wpAny_ite_true (Eq.refl _) (wpAny_bind (wpAny_bind (wpAny_stack_any fun st => wpAny_pure ?_)))))))))))
  refine wp_ite_any ?_ ?_
  · refine wpAny_bind ?_
    refine wp_pure_eq (a := (v, none)) rfl ?_
    refine wpAny_bind ?_
    refine B.iter _ _ _ _ _ _ h1 ?_
    refine wpAny_bind ?_
    unfold Builtin.SmallTypes.newRecord newObj
    apply wpAny_ite_false
    · exact rfl
    refine wpAny_bind ?_
    refine wpAny_alloc' ?_
    refine wpAny_pure ?_
    refine wpAny_pure ?_
    exact ⟨_, rfl, h⟩
  · refine wpAny_bind ?_
    refine wp_pure_eq (a := (v, none)) rfl ?_
    refine wpAny_bind ?_
    refine B.iter _ _ _ _ _ _ h1 ?_
    refine wpAny_bind ?_
    unfold Builtin.SmallTypes.newRecord newObj
    apply wpAny_ite_false
    · exact rfl
    refine wpAny_bind ?_
    refine wpAny_alloc' ?_
    refine wpAny_pure ?_
    refine wpAny_pure ?_
    exact ⟨_, rfl, h⟩
theorem call_enumB {prog : Program} {w : World} {A : Around} {E : Value → Shared → Prop} {s : Shared} {v : Value} {o : Obj} {H : Heap → Prop} {Q : Value → Shared → Prop} (B : Begins v o H) (h1 : H s.heap)
    (h : ∀ h' : Heap, IsEnum h' (s.heap.objs.size + 1) s.heap.objs.size 0 Value.none → h'.get? s.heap.objs.size = some o → h'.objs.size = s.heap.objs.size + 2 → (∀ (b : Addr) (o : Obj), s.heap.get? b = some o → h'.get? b = some o) → Q (Value.ref (s.heap.objs.size + 1)) { s with heap := h' }) :
    wpAny (model prog w) A (call (Value.type "enumerate") [v]) Q E s := by
  refine callType_new F.called_enumerate (of_decide_eq_true (id (Eq.refl true))) (F.typeCall_enumerate_1 v) (F.newCall_enumerate_1 v) (fun obj => F.args_object_init_2 obj v) F.entry_enumerate_new (meets_enumB B) ⟨h1, ?_⟩
  have hz := Heap.size_push s.heap o
  have he := Heap.get?_push_size (s.heap.push o) (o := ⟨.type "enumerate", none, .fields #[Value.none, Value.bool false, Value.ref s.heap.objs.size, rawInt 0, Value.none, Value.none], #[]⟩) rfl
  show Shared.TypeIs _ (Value.ref (s.heap.push o).objs.size) "enumerate" ∧ Q (Value.ref (s.heap.push o).objs.size) _
  rw [hz] at he ⊢
  refine ⟨⟨_, he, rfl⟩, h _ he (Heap.get?_push_of_some _ (Heap.get?_push_size s.heap B.free)) ?_ fun b o' x => Heap.get?_push_of_some _ (Heap.get?_push_of_some _ x)⟩
  rw [Heap.size_push, hz]
/-- the walk over a tuple by enumerate -/
def IteT (K : Frag) (a : Addr) : It := ⟨fun i H => ∃ xs x, SqT K H a xs ∧ xs[i]? = some x, fun i H v H' => ∃ (T : Addr) (x : V), v = V.ref T ∧ H T = none ∧ H' = upd H T (.tup [.int (i : Nat), x]) ∧ ∀ xs, SqT K H a xs → xs[i]? = some x, fun i H => ∃ xs, SqT K H a xs ∧ xs.length = i⟩
theorem turn_enumT {P : Program} {w : World} {K : Frag} {elts : List Expr} {kk : Nat} {tpos : Pos} (a e it : Addr) : Turn P w K (.Tuple elts kk tpos) (IteT K a) [e, it] e (fun i h => (∃ old, IsEnum h e it (i : Nat) old) ∧ h.IsTupleIter it a i ∧ e ≠ it ∧ e ≠ a ∧ it ≠ a) := by
  refine ⟨by simp, ?_, ?_, ?_, ?_, ?_⟩
  · intro i h ⟨⟨old, he⟩, ⟨o, ho, hc, hd⟩, _⟩ b hb
    rcases List.mem_cons.mp hb with hb | hb
    · subst hb; exact ⟨_, he, fun v q => nomatch q⟩
    · rw [List.mem_singleton] at hb; subst hb; exact ⟨o, ho, fun v q => by rw [hd] at q; cases q⟩
  · intro i h h' ⟨⟨old, he⟩, ⟨o, ho, hc, hd⟩, n⟩ k
    exact ⟨⟨old, k e (by simp) _ he⟩, ⟨o, k it (by simp) _ ho, hc, hd⟩, n⟩
  · intro X hP hw hK hc i pins s σ H E I hf st hg
    subst hP hw hK
    obtain ⟨⟨old, he⟩, hit, n1, n2, n3⟩ := st
    obtain ⟨xs, x, hq, hx⟩ := hg
    obtain ⟨its, rv, p, hz⟩ := I.tuple hq
    obtain ⟨u, hu, ru⟩ := Vals.get rv hx
    have hi : i < its.toArray.size := by
      rw [List.size_toArray]
      exact (List.getElem?_eq_some_iff.mp hu).1
    have W := WalksT.enumerateD (Draws.tuple (prog := X.prog) (w := X.w) (A := X.A.in1) (I.ok.hd hc) it a n3.symm its.toArray) e n1 (by simp [n1, n2]) (by simp)
    have pt : s.heap.IsTuple a its.toArray := p
    refine W.item i s _ E hi ⟨⟨old, he⟩, hit, pt⟩ fun T vals h' tk ⟨t, x', hx', ev⟩ hT hTup mid old' => ⟨.ref T, rfl, ?_⟩
    refine W.go elts kk tpos i T _ _ E mid fun h'' st'' old'' => ?_
    have ap := W.apart i T h' mid
    have ex' : u = x' := by
      have h2 : its.toArray[i]? = some x' := hx'
      rw [List.getElem?_toArray, hu] at h2
      exact Option.some.inj h2
    subst ex'
    obtain ⟨oT, hoT, hcT, nT, hdT⟩ := hTup
    have hT2 := old'' T oT ap hoT
    subst ev
    have new : ObjOk X.prog X.w (upd H T (.tup [.int (i : Nat), x])) h'' T (.tup [.int (i : Nat), x]) := ⟨of_decide_eq_true (id (Eq.refl true)), [Value.int (i : Nat) t, u], .cons ⟨t, rfl⟩ (.cons ru .nil), oT, hT2, hcT, nT, hdT⟩
    have hel : e < s.heap.objs.size := Heap.lt_size he
    have hil : it < s.heap.objs.size := by obtain ⟨o, ho, _⟩ := hit; exact Heap.lt_size ho
    have I1 := I.turnedNew (h' := h'') (t' := tk) (ch := [e, it]) (fun b ob hb q => old'' b ob hb (old' b ob hb q)) hf hT new
    refine ⟨.ref T, upd H T (.tup [.int (i : Nat), x]), I1, rfl, ⟨T, x, rfl, I.hok.fresh hT, rfl, fun ys hy => by rw [I.tuple_inj hy hq]; exact hx⟩, ?_, fun b hb => ?_⟩
    · exact ⟨st''.1, st''.2.1, n1, n2, n3⟩
    · have hb' : b < s.heap.objs.size := by
        rcases List.mem_cons.mp hb with hb | hb
        · subst hb; exact hel
        · rw [List.mem_singleton] at hb; subst hb; exact hil
      rw [upd_ne (Nat.ne_of_lt (Nat.lt_of_lt_of_le hb' hT))]
      exact (hf b hb).1
  · intro X hP hw hK hc i pins s σ H E I hf st hg
    subst hP hw hK
    obtain ⟨⟨old, he⟩, hit, n1, n2, n3⟩ := st
    obtain ⟨xs, hq, hle⟩ := hg
    obtain ⟨its, rv, p, hz⟩ := I.tuple hq
    have hn : its.toArray.size = i := by rw [List.size_toArray, ← Paired.length rv]; exact hle
    have D := Draws.tuple (prog := X.prog) (w := X.w) (A := X.A.in1) (I.ok.hd hc) it a n3.symm its.toArray
    have pt : s.heap.IsTuple a its.toArray := p
    obtain ⟨f0, f1, f2, f3, f4, f5⟩ := hf it (by simp)
    exact wpAny_pyNext_enum_endD D he (by rw [hn]; exact ⟨hit, pt⟩) fun h' eb => ⟨rfl, I.turned (fun b o hb q => eb b o hb q) f0 f1 f3 f4 f5⟩
  · intro A i s Q E ⟨⟨old, he⟩, _⟩ hQ
    exact wpAny_pyIter_enum he hQ
/-- enumerate over a list or a tuple -/
def iEn (K : Frag) (ta : TA) : TI := fun σ H R => ta σ H fun vs H1 => ∃ a : Addr, vs = [.ref a] ∧ (((∃ xs, SqL K H1 a xs) ∧ R (Ite K a) H1) ∨ ((∃ xs, SqT K H1 a xs) ∧ R (IteT K a) H1))
theorem pi_en {X : Cx} {e : Expr} {ta : TA} {p pos tpos : Pos} {elts : List Expr} {kk : Nat} (hg : Gl X "enumerate") (hm : X.mg "enumerate" = none) (ha : PA X [e] ta) (hs : starEach [e] X.env = [(false, eval e X.env)]) :
    PI X (.Tuple elts kk tpos) (.Call (.Name "enumerate" p) [e] [] pos) (iEn X.K ta) := by
  refine ⟨fun pins s σ H R I h => ?_⟩
  refine Call_ (ld_blt I hg hm boot_enumerate (callWith_type1 (thn (ha.run pos pins s σ H _ I h) fun us s1 ⟨vs, H1, I1, r1, q1⟩ => ?_) hs rfl) (by decide +kernel) (by decide +kernel)) rfl
  obtain ⟨a, rfl, q⟩ := q1
  obtain ⟨u, rfl, ru⟩ := vals1 r1
  obtain rfl : u = Value.ref a := ru
  rcases q with ⟨⟨xs, hx⟩, q⟩ | ⟨⟨xs, hx⟩, q⟩
  · obtain ⟨its, rv, p, hz⟩ := I1.list hx
    refine call_enumerate_list p.isList fun h' he hit hsz hk => wpAny_pyIter_enum he ?_
    have I2 := I1.kept (t' := s1.toks) hk
    refine ⟨_, [s1.heap.objs.size + 1, s1.heap.objs.size], _, Ite X.K a, H1, rfl, I2, turn_enum a _ _, ⟨⟨_, he⟩, hit, Nat.succ_ne_self _⟩, fun b hb => ?_, q⟩
    have hle : s1.heap.objs.size ≤ b := by
      rcases List.mem_cons.mp hb with hb | hb
      · subst hb; exact Nat.le_add_right _ _
      · rw [List.mem_singleton] at hb; subst hb; exact Nat.le_refl _
    exact I1.fpOk hle (I1.hok.fresh hle)
  · obtain ⟨its, rv, p, hz⟩ := I1.tuple hx
    have pt : s1.heap.IsTuple a its.toArray := p
    have ha : a < s1.heap.objs.size := by obtain ⟨o, ho, _⟩ := pt; exact Heap.lt_size ho
    refine call_enumB (begins_tuple a its.toArray) pt fun h' he ho hsz hk => wpAny_pyIter_enum he ?_
    have I2 := I1.kept (t' := s1.toks) hk
    refine ⟨_, [s1.heap.objs.size + 1, s1.heap.objs.size], _, IteT X.K a, H1, rfl, I2, turn_enumT a _ _, ⟨⟨_, he⟩, ⟨_, ho, rfl, rfl⟩, Nat.succ_ne_self _, (Nat.ne_of_lt (Nat.lt_succ_of_lt ha)).symm, (Nat.ne_of_lt ha).symm⟩, fun b hb => ?_, q⟩
    have hle : s1.heap.objs.size ≤ b := by
      rcases List.mem_cons.mp hb with hb | hb
      · subst hb; exact Nat.le_add_right _ _
      · rw [List.mem_singleton] at hb; subst hb; exact Nat.le_refl _
    exact I1.fpOk hle (I1.hok.fresh hle)
end
end Pl

set_option maxHeartbeats 4000000
/-! methods, isinstance, what is walked, comprehensions -/
namespace Pl
open PySem L2
section
variable {X : Cx}
theorem few_args {env : Env} {pos : Pos} {es : List Expr} (h : es.all (fun e => !isStar e) = true) (hl : es.length < 10) :
    ((backTo pos (starEach es env)).all (fun x => !x.1) && (backToKw pos (keywordEach [] env)).all (fun x => x.1.isSome)
      && decide (es.length + ([] : List Keyword).length + (if ([] : List Keyword).isEmpty then 0 else 1) < 30)) = true := by
  have h1 : (backTo pos (starEach es env)).all (fun x => !x.1) = true := by
    have h2 : ∀ es : List Expr, es.all (fun e => !isStar e) = true → (backTo pos (starEach es env)).all (fun x => !x.1) = true := by
      intro es
      induction es with
      | nil => intro _; rfl
      | cons e es ih =>
        intro h
        rw [List.all_cons, Bool.and_eq_true] at h
        rw [star_cons (by simpa using h.1)]
        exact ih h.2
    exact h2 es h
  rw [h1]
  simp [backToKw, keywordEach]
  omega
theorem rcv_ty {K : Fg} {m : Mfn} {T : String} {n : Str} {id : String} {x : V} {u : U} {H : Hp} {M : Hm} (S : Sim K H M) (r : Rel K H x u) (h : mfnT m = some (T, n, id)) (q : rcvW m u M) : tyV K T x H := by
  unfold mfnT at h
  unfold rcvW at q
  split at h <;> first | (cases h; done) | skip
  · cases h
    obtain ⟨p, us, rfl, e⟩ := q
    cases r
    obtain ⟨vs, e2, _⟩ := S _ _ e
    exact .inl ⟨rfl, vs, .inl (.inl e2)⟩
  · cases h
    obtain ⟨p, us, rfl, e⟩ := q
    cases r
    obtain ⟨vs, e2, _⟩ := S _ _ e
    exact .inl ⟨rfl, vs, .inl (.inl e2)⟩
  · cases h
    obtain ⟨p, us, rfl, e⟩ := q
    cases r
    obtain ⟨vs, e2, _⟩ := S _ _ e
    exact .inl ⟨rfl, vs, .inl (.inl e2)⟩
  · cases h
    obtain ⟨p, us, rfl, e⟩ := q
    cases r
    obtain ⟨vs, e2, _⟩ := S _ _ e
    exact .inl ⟨rfl, vs, .inl (.inl e2)⟩
  · cases h
    obtain ⟨p, us, rfl, e⟩ := q
    cases r
    obtain ⟨vs, e2, _⟩ := S _ _ e
    exact .inl ⟨rfl, vs, .inl (.inl e2)⟩
  · cases h
    obtain ⟨s, rfl⟩ := q
    cases r
    exact rfl
theorem mt_S (hu : X.A.units + 66 < cLine) (m : Mfn) {T : String} {n : Str} {id : String} (h : mfnT m = some (T, n, id)) : PlainAttrs T ∧ Slot T n id ∧ typeOf (.builtin id) = pure (.type "method_descriptor") ∧ MtR X id (MRs X.K (mthW m)) := by
  unfold mfnT at h
  split at h <;> first | (cases h; done) | skip
  · cases h; exact ⟨PySem.F.plainAttrs_list, PySem.F.slot_list_append, PySem.F.type_list_append, mt_appendS⟩
  · cases h; exact ⟨PySem.F.plainAttrs_list, PySem.F.slot_list_extend, PySem.F.type_list_extend, mt_extendS⟩
  · cases h; exact ⟨PySem.F.plainAttrs_list, PySem.F.slot_list_pop, PySem.F.type_list_pop, mt_popS⟩
  · cases h; exact ⟨PySem.F.plainAttrs_list, PySem.F.slot_list_pop, PySem.F.type_list_pop, mt_popAtS⟩
  · cases h; exact ⟨PySem.F.plainAttrs_list, PySem.F.slot_list_index, PySem.F.type_list_index, mt_indexS hu⟩
  · cases h; exact ⟨PySem.F.plainAttrs_str, PySem.F.slot_str_split, PySem.F.type_str_split, mt_splitS⟩
def notSup : Expr → Bool
  | .Call (.Name id _) [] [] _ => id != "super"
  | _ => true
theorem base_of {o : Expr} {n : Str} {env : Env} (h : notSup o = true) : attributeBase o n env (eval o env) = eval o env := by
  unfold attributeBase
  split
  · rename_i id p pos
    have h2 : (id != "super") = true := h
    simp [h2]
  · rfl
theorem se_mth {m : Mfn} {T : String} {n : Str} {id : String} {o : Expr} {es : List Expr} {f : WE} {g : WL} {apos pos : Pos} (hu : X.A.units + 66 < cLine) (hm : mfnT m = some (T, n, id)) (hs : es.all (fun e => !isStar e) = true) (hl : es.length < 10) (hline : (apos.endLine == pos.line) = true) (hb : notSup o = true)
    (h1 : SE1 X f o) (h2 : SA X g es) (hg0 : es = [] → g = fun _ M Q => Q [] M) : SE1 X (fun σ M Q => f σ M fun x M1 => rcvW m x M1 ∧ g σ M1 fun xs M2 => mthW m x xs M2 Q) (.Call (.Attribute o n apos) es [] pos) := by
  obtain ⟨t1, p1, q1⟩ := h1
  obtain ⟨t2, p2, q2⟩ := h2
  obtain ⟨pa, sl, ty, mt⟩ := mt_S (X := X) hu m hm
  cases es with
  | nil =>
    rw [hg0 rfl]
    refine ⟨_, pe_bm0 pa sl ty mt p1 (base_of hb) hline, fun σ H σu M Qu Q rs S hf c => ?_⟩
    refine q1 σ H σu M _ _ rs S hf fun v H1 u M1 st S1 r hq => ?_
    exact ⟨rcv_ty S1 r hm hq.1, u, [], M1, Qu, S1, r, .nil, hq.2, c.tr S st⟩
  | cons e es =>
    have hs2 : isStar e = false ∧ es.all (fun e => !isStar e) = true := by
      rw [List.all_cons, Bool.and_eq_true] at hs
      exact ⟨by simpa using hs.1, hs.2⟩
    refine ⟨_, pe_bm pa sl ty mt p1 p2 (base_of hb) (few_args hs hl) hline (star_cons hs2.1) (star_plain hs2.2), fun σ H σu M Qu Q rs S hf c => ?_⟩
    refine q1 σ H σu M _ _ rs S hf fun v H1 u M1 st S1 r hq => ?_
    refine ⟨rcv_ty S1 r hm hq.1, ?_⟩
    refine q2 σ H1 σu M1 _ _ (rs.stp S st) S1 hq.2 fun vs H2 us M2 st2 S2 rl hq2 => ?_
    exact ⟨u, us, M2, Qu, S2, r.stp S1 st2, rl, hq2, c.tr S (st.trans S st2)⟩
theorem se_dget {o e d : Expr} {f g h : WE} {apos pos : Pos} (hu : X.A.units + 66 < cLine) (hs : isStar e = false) (hs2 : isStar d = false) (hline : (apos.endLine == pos.line) = true) (hb : notSup o = true) (h1 : SE1 X f o) (h2 : SE1 X g e) (h3 : SE1 X h d) :
    SE1 X (fun σ M Q => f σ M fun x M1 => isDW x M1 ∧ g σ M1 fun y M2 => h σ M2 fun v M3 => dgetW x y v M3 Q) (.Call (.Attribute o "get" apos) [e, d] [] pos) := by
  obtain ⟨t1, p1, q1⟩ := h1
  obtain ⟨t2, p2, q2⟩ := h2
  obtain ⟨t3, p3, q3⟩ := h3
  have hall : [e, d].all (fun e => !isStar e) = true := by simp [hs, hs2]
  refine ⟨_, pe_dget2 (by omega) p1 p2 p3 ⟨base_of hb, few_args hall (by simp), hline, by rw [star_cons hs, star_cons hs2]; rfl⟩, fun σ H σu M Qu Q rs S hf c => ?_⟩
  refine q1 σ H σu M _ _ rs S hf fun v H1 u M1 st S1 r hq => ?_
  obtain ⟨⟨p, z, t, ks, rfl, hm⟩, hq⟩ := hq
  cases r
  have hd : IsD H1 p := by
    have q := S1 p _ hm
    cases t with
    | false => obtain ⟨kvs, e, _⟩ := q; exact .inl ⟨kvs, fz_rd e⟩
    | true => obtain ⟨kvs, e, _⟩ := q; exact .inr ⟨kvs, fz_rd e⟩
  refine ⟨p, rfl, hd, ?_⟩
  refine q2 σ H1 σu M1 _ _ (rs.stp S st) S1 hq fun y H2 uy M2 st2 S2 ry hq2 => ?_
  refine q3 σ H2 σu M2 _ _ (rs.stp S (st.trans S st2)) S2 hq2 fun w H3 uw M3 st3 S3 rw' hq3 => ?_
  obtain ⟨p', z', t', ks', e, hm3, hk, hq3⟩ := hq3
  cases e
  obtain ⟨o', hg, ho⟩ := dget_of S3 hm3 hk (ry.stp S2 st3)
  have cc := c.tr S ((st.trans S st2).trans S st3)
  refine ⟨o', hg, ?_⟩
  rcases ho with ⟨rfl, hn⟩ | ⟨v', u', rfl, hs', rv⟩
  · rw [hn] at hq3
    exact cc.at_ S3 rw' hq3
  · rw [hs'] at hq3
    exact cc.at_ S3 rv hq3
theorem se_isinst {t : String} {x z : Str} {a : Expr} {f : WE} {p p2 pos : Pos} (ht : tyOk t = true) (hx : x = "isinstance") (hz : z = Str.ofString t) (hg : Gl X x) (hm : X.mg x = none) (hg2 : Gl X z) (hm2 : X.mg z = none) (hs : isStar a = false) (h1 : SE1 X f a) :
    SE X (.ofE fun σ M Q => f σ M fun x M1 => isTyW x t M1 fun b M2 => Q (.bl b) M2) (.Call (.Name x p) [a, .Name z p2] [] pos) := by
  obtain ⟨t1, p1, q1⟩ := h1
  subst hx hz
  have bz : bootBuiltins (Str.ofString t) = some (.type t) := by
    have ht2 : t = "tuple" ∨ t = "str" ∨ t = "int" ∨ t = "bool" ∨ t = "list" := by
      unfold tyOk at ht
      simp only [Bool.or_eq_true, beq_iff_eq] at ht
      rcases ht with (((h | h) | h) | h) | h
      · exact .inl h
      · exact .inr (.inl h)
      · exact .inr (.inr (.inl h))
      · exact .inr (.inr (.inr (.inl h)))
      · exact .inr (.inr (.inr (.inr h)))
    rcases ht2 with rfl | rfl | rfl | rfl | rfl <;> decide +kernel
  have nz : Str.ofString t ≠ "__name__" ∧ (Str.ofString t == ("__debug__" : Str)) = false := by
    have ht2 : t = "tuple" ∨ t = "str" ∨ t = "int" ∨ t = "bool" ∨ t = "list" := by
      unfold tyOk at ht
      simp only [Bool.or_eq_true, beq_iff_eq] at ht
      rcases ht with (((h | h) | h) | h) | h
      · exact .inl h
      · exact .inr (.inl h)
      · exact .inr (.inr (.inl h))
      · exact .inr (.inr (.inr (.inl h)))
      · exact .inr (.inr (.inr (.inr h)))
    rcases ht2 with rfl | rfl | rfl | rfl | rfl <;> decide +kernel
  have pz : PE X (.Name (Str.ofString t) p2) (tC (.ty t)) := pe_bltn hg2 hm2 bz rfl nz.1 nz.2
  have pall : PA X [a, .Name (Str.ofString t) p2] (tCons t1 (tCons (tC (.ty t)) tNil)) := pa_cons p1 (pa_cons pz pa_nil) (star_cons hs)
  refine SE.ofE rfl ⟨_, pe_callB call_isi hg hm (by decide +kernel) pall (by decide +kernel) (by decide +kernel) (star_cons hs) rfl, fun σ H σu M Qu Q rs S hf c => ?_⟩
  refine q1 σ H σu M _ _ rs S hf fun v H1 u M1 st S1 r hq => ?_
  obtain ⟨ty, b, h1, h2, h3⟩ := isTy_of (Q := fun b H => Q (.bl b) H) ht ⟨u, M1, fun b M2 => Qu (.bl b) M2, S1, r, hq, fun b H' M' st' S' q' => c _ _ _ _ (st.trans S st') S' (.bl b) q'⟩
  exact ⟨v, .ty t, ty, .type t, b, rfl, .ty t, h1, h2, h3⟩

/-! ### what is walked -/
def ItOk (K : Fg) (H0 : Hp) (M0 : Hm) (J : It) (items : List U) (g : Hm → Prop) : Prop := ∀ (i : Nat) (H : Hp) (M : Hm), Stp H0 M0 H M → Sim K H M → g M →
  (∀ u, items[i]? = some u → J.go i H ∧ ∀ x H', J.yld i H x H' → Stp H M H' M ∧ Sim K H' M ∧ Rel K H' x u) ∧ (items.length = i → J.stop i H)
abbrev QI := List U → (Hm → Prop) → ((Hm → Prop) → Hm → Prop) → Hm → Prop
def EvI (K : Fg) (t : TI) (f : WI) : Prop := ∀ (σ : L2.St) (H : Hp) (σu : SU) (M : Hm) (Qu : QI) (R : It → Hp → Prop), RelS K H σ σu → Sim K H M → f σu M Qu →
  (∀ J H' items g ex M', Stp H M H' M' → Sim K H' M' → ItOk K H' M' J items g → g M' → ex = (fun P => P) → Qu items g ex M' → R J H') → t σ H R
def SI (X : Cx) (tg iter : Expr) (f : WI) : Prop := ∃ t, PI X tg iter t ∧ EvI X.K t f
theorem it_list {K : Fg} {H0 : Hp} {M0 : Hm} {p : Addr} {us : List U} : ItOk K H0 M0 (Itl K p) us (fun M => M p = some (.lst us)) := fun i H M st S hm => by
  obtain ⟨vs, e, r⟩ := S p _ hm
  refine ⟨fun u hu => ?_, fun hl => ⟨vs, .inl (.inl e), by rw [r.length]; exact Nat.le_of_eq hl⟩⟩
  obtain ⟨v, ev, rv⟩ := r.get hu
  refine ⟨⟨vs, v, .inl (.inl e), ev⟩, fun x H' ⟨eH, hx⟩ => ?_⟩
  subst eH
  have e2 := hx vs (.inl (.inl e))
  rw [ev] at e2
  cases e2
  exact ⟨Stp.refl _ M, S, rv⟩
theorem it_rol {K : Fg} {H0 : Hp} {M0 : Hm} {p : Addr} {vs : List V} {us : List U} (S0 : Sim K H0 M0) (t : Rl K H0 p vs) (r0 : RelL K H0 vs us) : ItOk K H0 M0 (Itl K p) us (fun _ => True) := fun i H M st S _ => by
  have t1 := t.stp S0 st
  have r := r0.stp S0 st
  refine ⟨fun u hu => ?_, fun hl => ⟨vs, t1.sq, by rw [r.length]; exact Nat.le_of_eq hl⟩⟩
  obtain ⟨v, ev, rv⟩ := r.get hu
  refine ⟨⟨vs, v, t1.sq, ev⟩, fun x H' ⟨eH, hx⟩ => ?_⟩
  subst eH
  have e2 := hx vs t1.sq
  rw [ev] at e2
  cases e2
  exact ⟨Stp.refl _ M, S, rv⟩
theorem it_tup {K : Fg} {H0 : Hp} {M0 : Hm} {p : Addr} {vs : List V} {us : List U} (S0 : Sim K H0 M0) (t : Tp K H0 p vs) (r0 : RelL K H0 vs us) : ItOk K H0 M0 (Itt K p) us (fun _ => True) := fun i H M st S _ => by
  have t1 := t.stp S0 st
  have r := r0.stp S0 st
  refine ⟨fun u hu => ?_, fun hl => ⟨vs, t1.sq, by rw [r.length]; exact Nat.le_of_eq hl⟩⟩
  obtain ⟨v, ev, rv⟩ := r.get hu
  refine ⟨⟨vs, v, t1.sq, ev⟩, fun x H' ⟨eH, hx⟩ => ?_⟩
  subst eH
  have e2 := hx vs t1.sq
  rw [ev] at e2
  cases e2
  exact ⟨Stp.refl _ M, S, rv⟩
theorem it_tupD {K : Fg} {H0 : Hp} {M0 : Hm} {p : Addr} {vs : List V} {us : List U} (S0 : Sim K H0 M0) (t : Td K H0 p vs) (r0 : RelL K H0 vs us) : ItOk K H0 M0 (Itt K p) us (fun _ => True) := fun i H M st S _ => by
  have t1 := t.stp S0 st
  have r := r0.stp S0 st
  refine ⟨fun u hu => ?_, fun hl => ⟨vs, t1.sq, by rw [r.length]; exact Nat.le_of_eq hl⟩⟩
  obtain ⟨v, ev, rv⟩ := r.get hu
  refine ⟨⟨vs, v, t1.sq, ev⟩, fun x H' ⟨eH, hx⟩ => ?_⟩
  subst eH
  have e2 := hx vs t1.sq
  rw [ev] at e2
  cases e2
  exact ⟨Stp.refl _ M, S, rv⟩
theorem it_rng {K : Fg} {H0 : Hp} {M0 : Hm} {a : Int} {n : Nat} : ItOk K H0 M0 (Itr a n) ((List.range n).map fun i => U.int (a + (i : Nat))) (fun _ => True) := fun i H M st S _ => by
  refine ⟨fun u hu => ?_, fun hl => ?_⟩
  rotate_left
  · have hl2 : n = i := by simpa using hl
    exact Nat.le_of_eq hl2
  obtain ⟨h1, h2⟩ := List.getElem?_eq_some_iff.mp hu
  have h3 : i < n := by simpa using h1
  refine ⟨h3, fun x H' ⟨eH, hx⟩ => ?_⟩
  subst eH hx
  rw [← h2]
  refine ⟨Stp.refl _ M, S, ?_⟩
  simp only [List.getElem_map, List.getElem_range]
  exact .int _
theorem enumU_get {l : List U} {i : Nat} {u : U} (h : (enumU l)[i]? = some u) : ∃ w, l[i]? = some w ∧ u = .tup [.int (i : Nat), w] := by
  unfold enumU at h
  rw [List.getElem?_map, List.getElem?_zipIdx] at h
  cases q : l[i]? with
  | none => rw [q] at h; cases h
  | some w =>
    rw [q] at h
    simp only [Option.map_some, Option.some.injEq, Nat.zero_add] at h
    exact ⟨w, rfl, h.symm⟩
theorem enumU_len (l : List U) : (enumU l).length = l.length := by unfold enumU; rw [List.length_map, List.length_zipIdx]
theorem it_enL {K : Fg} {H0 : Hp} {M0 : Hm} {p : Addr} {us : List U} : ItOk K H0 M0 (Ite K p) (enumU us) (fun M => M p = some (.lst us)) := fun i H M st S hm => by
  obtain ⟨vs, e, r⟩ := S p _ hm
  refine ⟨fun u hu => ?_, fun hl => ⟨vs, .inl (.inl e), by rw [r.length]; rw [enumU_len] at hl; exact Nat.le_of_eq hl⟩⟩
  obtain ⟨w, hw, rfl⟩ := enumU_get hu
  obtain ⟨v, ev, rv⟩ := r.get hw
  refine ⟨⟨vs, v, .inl (.inl e), ev⟩, fun x H' ⟨T, y, ex, hT, eH, hy⟩ => ?_⟩
  subst ex eH
  have e2 := hy vs (.inl (.inl e))
  rw [ev] at e2
  cases e2
  exact ⟨Stp.newT S hT, S.newT hT, .tup upd_same (.cons (.int _) (.cons (rv.stp S (Stp.newT S hT)) .nil))⟩
theorem it_enR {K : Fg} {H0 : Hp} {M0 : Hm} {p : Addr} {vs : List V} {us : List U} (S0 : Sim K H0 M0) (t : Rl K H0 p vs) (r0 : RelL K H0 vs us) : ItOk K H0 M0 (Ite K p) (enumU us) (fun _ => True) := fun i H M st S _ => by
  have t1 := t.stp S0 st
  have r := r0.stp S0 st
  refine ⟨fun u hu => ?_, fun hl => ⟨vs, t1.sq, by rw [r.length]; rw [enumU_len] at hl; exact Nat.le_of_eq hl⟩⟩
  obtain ⟨w, hw, rfl⟩ := enumU_get hu
  obtain ⟨v, ev, rv⟩ := r.get hw
  refine ⟨⟨vs, v, t1.sq, ev⟩, fun x H' ⟨T, y, ex, hT, eH, hy⟩ => ?_⟩
  subst ex eH
  have e2 := hy vs t1.sq
  rw [ev] at e2
  cases e2
  exact ⟨Stp.newT S hT, S.newT hT, .tup upd_same (.cons (.int _) (.cons (rv.stp S (Stp.newT S hT)) .nil))⟩
theorem it_enT {K : Fg} {H0 : Hp} {M0 : Hm} {p : Addr} {vs : List V} {us : List U} (S0 : Sim K H0 M0) (t : Tp K H0 p vs) (r0 : RelL K H0 vs us) : ItOk K H0 M0 (IteT K p) (enumU us) (fun _ => True) := fun i H M st S _ => by
  have t1 := t.stp S0 st
  have r := r0.stp S0 st
  refine ⟨fun u hu => ?_, fun hl => ⟨vs, t1.sq, by rw [r.length]; rw [enumU_len] at hl; exact hl⟩⟩
  obtain ⟨w, hw, rfl⟩ := enumU_get hu
  obtain ⟨v, ev, rv⟩ := r.get hw
  refine ⟨⟨vs, v, t1.sq, ev⟩, fun x H' ⟨T, y, ex, hT, eH, hy⟩ => ?_⟩
  subst ex eH
  have e2 := hy vs t1.sq
  rw [ev] at e2
  cases e2
  exact ⟨Stp.newT S hT, S.newT hT, .tup upd_same (.cons (.int _) (.cons (rv.stp S (Stp.newT S hT)) .nil))⟩
theorem it_enTD {K : Fg} {H0 : Hp} {M0 : Hm} {p : Addr} {vs : List V} {us : List U} (S0 : Sim K H0 M0) (t : Td K H0 p vs) (r0 : RelL K H0 vs us) : ItOk K H0 M0 (IteT K p) (enumU us) (fun _ => True) := fun i H M st S _ => by
  have t1 := t.stp S0 st
  have r := r0.stp S0 st
  refine ⟨fun u hu => ?_, fun hl => ⟨vs, t1.sq, by rw [r.length]; rw [enumU_len] at hl; exact hl⟩⟩
  obtain ⟨w, hw, rfl⟩ := enumU_get hu
  obtain ⟨v, ev, rv⟩ := r.get hw
  refine ⟨⟨vs, v, t1.sq, ev⟩, fun x H' ⟨T, y, ex, hT, eH, hy⟩ => ?_⟩
  subst ex eH
  have e2 := hy vs t1.sq
  rw [ev] at e2
  cases e2
  exact ⟨Stp.newT S hT, S.newT hT, .tup upd_same (.cons (.int _) (.cons (rv.stp S (Stp.newT S hT)) .nil))⟩
theorem si_enum {x : Str} {p pos tpos : Pos} {elts : List Expr} {kk : Nat} {a : Expr} {f : WE} (hx : x = "enumerate") (hg : Gl X x) (hm : X.mg x = none) (hs : isStar a = false) (h : SE1 X f a) :
    SI X (.Tuple elts kk tpos) (.Call (.Name x p) [a] [] pos) (fun σ M Q => f σ M fun x M1 => seqI x M1 fun us g ex M2 => Q (enumU us) g ex M2) := by
  subst hx
  obtain ⟨t, pt, q⟩ := h
  refine ⟨_, pi_en hg hm (pa_cons pt pa_nil (star_cons hs)) (star_cons hs), fun σ H σu M Qu R rs S hf c => ?_⟩
  refine q σ H σu M _ _ rs S hf fun v H1 u M1 st S1 r hq => ?_
  unfold seqI at hq
  split at hq
  · cases r with
    | tup t rl => exact ⟨_, rfl, .inr ⟨⟨_, t.sq⟩, c _ _ _ _ _ _ st S1 (it_enT S1 t rl) trivial rfl hq⟩⟩
  · cases r with
    | rol t rl => exact ⟨_, rfl, .inl ⟨⟨_, t.sq⟩, c _ _ _ _ _ _ st S1 (it_enR S1 t rl) trivial rfl hq⟩⟩
  · cases r with
    | dtp t rl => exact ⟨_, rfl, .inr ⟨⟨_, t.sq⟩, c _ _ _ _ _ _ st S1 (it_enTD S1 t rl) trivial rfl hq⟩⟩
  · cases r
    obtain ⟨us, hm1, hq⟩ := hq
    obtain ⟨vs, e, rl⟩ := S1 _ _ hm1
    exact ⟨_, rfl, .inl ⟨⟨vs, .inl (.inl e)⟩, c _ _ _ _ _ _ st S1 it_enL hm1 rfl hq⟩⟩
  · exact hq.elim
/-- a list or a tuple (either is found when it is walked) -/
def iSq (K : Fg) (tl : TE) : TI := fun σ H R => tl σ H fun x H1 => ∃ a, x = .ref a ∧ (((∃ xs, SqL K H1 a xs) ∧ R (Itl K a) H1) ∨ ((∃ xs, SqT K H1 a xs) ∧ R (Itt K a) H1))
theorem pi_sq {tg l : Expr} {tl : TE} (hl : PE X l tl) : PI X tg l (iSq X.K tl) := by
  refine ⟨fun pins s σ H R I h => ?_⟩
  refine thn (hl.run pins s σ H _ I h) fun v s1 ⟨x, H1, I1, r, q⟩ => ?_
  obtain ⟨a, rfl, q⟩ := q
  obtain rfl : v = Value.ref a := r
  rcases q with ⟨⟨xs, hx⟩, q⟩ | ⟨⟨xs, hx⟩, q⟩
  · obtain ⟨its, rv, p, hz⟩ := I1.list hx
    exact PySem.wpAny_pyIter_list p.isList (pi_one I1 _ (turn_list a _) ⟨_, Heap.get?_push_size _ rfl, rfl, rfl⟩ q)
  · obtain ⟨its, rv, p, hz⟩ := I1.tuple hx
    exact PySem.wpAny_pyIter_tuple (show s1.heap.IsTuple a its.toArray from p) (pi_one I1 _ (turn_tuple a _) ⟨_, Heap.get?_push_size _ rfl, rfl, rfl⟩ q)
theorem si_seq {tg l : Expr} {f : WE} (h : SE1 X f l) : SI X tg l (fun σ M Q => f σ M fun x M1 => seqI x M1 Q) := by
  obtain ⟨t, p, q⟩ := h
  refine ⟨_, pi_sq p, fun σ H σu M Qu R rs S hf c => ?_⟩
  refine q σ H σu M _ _ rs S hf fun v H1 u M1 st S1 r hq => ?_
  unfold seqI at hq
  split at hq
  · cases r with
    | tup t rl => exact ⟨_, rfl, .inr ⟨⟨_, t.sq⟩, c _ _ _ _ _ _ st S1 (it_tup S1 t rl) trivial rfl hq⟩⟩
  · cases r with
    | rol t rl => exact ⟨_, rfl, .inl ⟨⟨_, t.sq⟩, c _ _ _ _ _ _ st S1 (it_rol S1 t rl) trivial rfl hq⟩⟩
  · cases r with
    | dtp t rl => exact ⟨_, rfl, .inr ⟨⟨_, t.sq⟩, c _ _ _ _ _ _ st S1 (it_tupD S1 t rl) trivial rfl hq⟩⟩
  · obtain ⟨us, e, hq⟩ := hq
    cases r
    obtain ⟨vs, e2, _⟩ := S1 _ _ e
    exact ⟨_, rfl, .inl ⟨⟨_, .inl (.inl e2)⟩, c _ _ _ _ _ _ st S1 it_list e rfl hq⟩⟩
  · exact hq.elim
theorem it_rev {K : Fg} {H0 : Hp} {M0 : Hm} {p : Addr} {us : List U} : ItOk K H0 M0 (Itv K p us.length) us.reverse (fun M => M p = some (.lst us)) := fun i H M st S hm => by
  obtain ⟨vs, e, r⟩ := S p _ hm
  refine ⟨fun u hu => ?_, fun hl => by
    rw [List.length_reverse] at hl
    exact Nat.le_of_eq hl⟩
  obtain ⟨h1, h2⟩ := List.getElem?_eq_some_iff.mp hu
  rw [List.length_reverse] at h1
  have hu' : us[us.length - 1 - i]? = some u := by rw [← List.getElem?_reverse h1]; exact hu
  obtain ⟨v, ev, rv⟩ := r.get hu'
  refine ⟨⟨h1, vs, v, .inl (.inl e), ev⟩, fun x H' ⟨eH, hx⟩ => ?_⟩
  subst eH
  have e2 := hx vs (.inl (.inl e))
  rw [ev] at e2
  cases e2
  exact ⟨Stp.refl _ M, S, rv⟩
theorem it_revT {K : Fg} {H0 : Hp} {M0 : Hm} {p : Addr} {vs : List V} {us : List U} (S0 : Sim K H0 M0) (t : Tp K H0 p vs) (r0 : RelL K H0 vs us) : ItOk K H0 M0 (RT.ItvT K p us.length) us.reverse (fun _ => True) := fun i H M st S _ => by
  have t1 := t.stp S0 st
  have r := r0.stp S0 st
  refine ⟨fun u hu => ?_, fun hl => by
    rw [List.length_reverse] at hl
    exact Nat.le_of_eq hl⟩
  obtain ⟨h1, h2⟩ := List.getElem?_eq_some_iff.mp hu
  rw [List.length_reverse] at h1
  have hu' : us[us.length - 1 - i]? = some u := by rw [← List.getElem?_reverse h1]; exact hu
  obtain ⟨v, ev, rv⟩ := r.get hu'
  refine ⟨⟨h1, vs, v, t1.sq, ev⟩, fun x H' ⟨eH, hx⟩ => ?_⟩
  subst eH
  have e2 := hx vs t1.sq
  rw [ev] at e2
  cases e2
  exact ⟨Stp.refl _ M, S, rv⟩
theorem it_revD {K : Fg} {H0 : Hp} {M0 : Hm} {p : Addr} {vs : List V} {us : List U} (S0 : Sim K H0 M0) (t : Td K H0 p vs) (r0 : RelL K H0 vs us) : ItOk K H0 M0 (RT.ItvT K p us.length) us.reverse (fun _ => True) := fun i H M st S _ => by
  have t1 := t.stp S0 st
  have r := r0.stp S0 st
  refine ⟨fun u hu => ?_, fun hl => by
    rw [List.length_reverse] at hl
    exact Nat.le_of_eq hl⟩
  obtain ⟨h1, h2⟩ := List.getElem?_eq_some_iff.mp hu
  rw [List.length_reverse] at h1
  have hu' : us[us.length - 1 - i]? = some u := by rw [← List.getElem?_reverse h1]; exact hu
  obtain ⟨v, ev, rv⟩ := r.get hu'
  refine ⟨⟨h1, vs, v, t1.sq, ev⟩, fun x H' ⟨eH, hx⟩ => ?_⟩
  subst eH
  have e2 := hx vs t1.sq
  rw [ev] at e2
  cases e2
  exact ⟨Stp.refl _ M, S, rv⟩
theorem si_rev {tg a : Expr} {f : WE} {x : Str} {p pos : Pos} (hx : x = "reversed") (hg : Gl X x) (hm : X.mg x = none) (hs : isStar a = false) (h : SE1 X f a) :
    SI X tg (.Call (.Name x p) [a] [] pos) (fun σ M Q => f σ M fun x M1 => revI x M1 Q) := by
  subst hx
  obtain ⟨t, pt, q⟩ := h
  refine ⟨_, RT.pi_revA hg hm pt (star_cons hs), fun σ H σu M Qu R rs S hf c => ?_⟩
  refine q σ H σu M _ _ rs S hf fun v H1 u M1 st S1 r hq => ?_
  unfold revI at hq
  split at hq
  · cases r with
    | tup t rl => exact ⟨_, _, rfl, .inr ⟨t.sq, by rw [rl.length]; exact c _ _ _ _ _ _ st S1 (it_revT S1 t rl) trivial rfl hq⟩⟩
  · cases r with
    | dtp t rl => exact ⟨_, _, rfl, .inr ⟨t.sq, by rw [rl.length]; exact c _ _ _ _ _ _ st S1 (it_revD S1 t rl) trivial rfl hq⟩⟩
  · obtain ⟨us, e, hq⟩ := hq
    cases r
    obtain ⟨vs, e2, rl⟩ := S1 _ _ e
    exact ⟨_, _, rfl, .inl ⟨.inl (.inl e2), by rw [rl.length]; exact c _ _ _ _ _ _ st S1 it_rev e rfl hq⟩⟩
  · exact hq.elim
theorem si_rng {tg a : Expr} {f : WE} {x : Str} {p pos : Pos} (hx : x = "range") (hg : Gl X x) (hm : X.mg x = none) (hs : isStar a = false) (h : SE1 X f a) :
    SI X tg (.Call (.Name x p) [a] [] pos) (fun σ M Q => f σ M fun x M1 => ∃ n, x = .int n ∧ n ≤ LIM ∧ -LIM ≤ n ∧ Q (rngU 0 n) (fun _ => True) (fun P => P) M1) := by
  subst hx
  obtain ⟨t, pt, q⟩ := h
  refine ⟨_, pi_range1 hg hm (pa_cons pt pa_nil (star_cons hs)) (star_cons hs), fun σ H σu M Qu R rs S hf c => ?_⟩
  refine q σ H σu M _ _ rs S hf fun v H1 u M1 st S1 r hq => ?_
  obtain ⟨n, rfl, h1, h2, hq⟩ := hq
  cases r
  have hl : LIM = 100000 := rfl
  refine ⟨n, rfl, by omega, by omega, ?_⟩
  have e : rngU 0 n = (List.range n.toNat).map fun i => U.int (0 + (i : Nat)) := by
    unfold rngU
    rw [Int.sub_zero]
  rw [e] at hq
  exact c _ _ _ _ _ _ st S1 it_rng trivial rfl hq
theorem si_rng2 {tg a b : Expr} {f g : WE} {x : Str} {p pos : Pos} (hx : x = "range") (hg : Gl X x) (hm : X.mg x = none) (hs : isStar a = false) (hs2 : isStar b = false) (h : SE1 X f a) (h2 : SE1 X g b) :
    SI X tg (.Call (.Name x p) [a, b] [] pos) (fun σ M Q => f σ M fun x M1 => g σ M1 fun y M2 => ∃ m n, x = .int m ∧ y = .int n ∧ -LIM ≤ m ∧ m ≤ LIM ∧ n ≤ LIM ∧ -LIM ≤ n ∧ Q (rngU m n) (fun _ => True) (fun P => P) M2) := by
  subst hx
  obtain ⟨t, pt, q⟩ := h
  obtain ⟨t2, pt2, q2⟩ := h2
  have st2 : ∀ env : Env, starEach [b] env = [(false, eval b env)] := fun env => star_cons hs2
  refine ⟨_, pi_range2 hg hm (pa_cons pt (pa_cons pt2 pa_nil (star_cons hs2)) (star_cons hs)) (by rw [star_cons hs, star_cons hs2] <;> rfl) (by rw [star_cons hs2] <;> rfl), fun σ H σu M Qu R rs S hf c => ?_⟩
  refine q σ H σu M _ _ rs S hf fun v H1 u M1 st S1 r hq => ?_
  refine q2 σ H1 σu M1 _ _ (rs.stp S st) S1 hq fun v2 H2 u2 M2 st2 S2 r2 hq2 => ?_
  obtain ⟨m, n, rfl, rfl, h1, h2, h3, h4, hq⟩ := hq2
  cases r
  cases r2
  have hl : LIM = 100000 := rfl
  refine ⟨m, n, rfl, by omega, ?_⟩
  exact c _ _ _ _ _ _ (st.trans S st2) S2 it_rng trivial rfl hq
end
end Pl

set_option maxHeartbeats 4000000
/-! instances: fields, methods, making; setdefault; list(range(..)); a module's constants -/
namespace Pl
open PySem L2
theorem RelF.get {K : Fg} {H : Hp} {f : Str} {u : U} : ∀ {vs : List (Str × V)} {fs : List (Str × U)}, RelF K H vs fs → fs.lookup f = some u → ∃ y, vs.lookup f = some y ∧ Rel K H y u ∧ (f, y) ∈ vs
  | _, _, .nil, e => by cases e
  | _, _, .cons (a := p) (b := q) (l₁ := r) (l₂ := rest) a b, e => by
    obtain ⟨g, v⟩ := p
    obtain ⟨g', u'⟩ := q
    obtain ⟨rfl, rv⟩ := (show g = g' ∧ Rel K H v u' from a)
    cases hb : (f == g) with
    | true =>
      have e1 : List.lookup f ((g, u') :: rest) = some u' := by simp only [List.lookup, hb]
      rw [e1] at e
      cases e
      have := beq_iff_eq.mp hb
      subst this
      exact ⟨v, by simp only [List.lookup, hb], rv, List.mem_cons_self⟩
    | false =>
      have e1 : List.lookup f ((g, u') :: rest) = List.lookup f rest := by simp only [List.lookup, hb]
      rw [e1] at e
      obtain ⟨y, h1, h2, h3⟩ := RelF.get b e
      exact ⟨y, by simp only [List.lookup, hb]; exact h1, h2, List.mem_cons_of_mem _ h3⟩
theorem RelF.no {K : Fg} {H : Hp} {f : Str} : ∀ {vs : List (Str × V)} {fs : List (Str × U)}, RelF K H vs fs → fs.lookup f = none → vs.lookup f = none
  | _, _, .nil, e => rfl
  | _, _, .cons (a := p) (b := q) (l₁ := r) (l₂ := rest) a b, e => by
    obtain ⟨g, v⟩ := p
    obtain ⟨g', u'⟩ := q
    obtain ⟨rfl, rv⟩ := (show g = g' ∧ Rel K H v u' from a)
    cases hb : (f == g) with
    | true =>
      have e1 : List.lookup f ((g, u') :: rest) = some u' := by simp only [List.lookup, hb]
      rw [e1] at e
      cases e
    | false =>
      have e1 : List.lookup f ((g, u') :: rest) = List.lookup f rest := by simp only [List.lookup, hb]
      rw [e1] at e
      simp only [List.lookup, hb]
      exact RelF.no b e
theorem RelF.put {K : Fg} {H : Hp} {f : Str} {v : V} {u : U} (r : Rel K H v u) : ∀ {vs : List (Str × V)} {fs : List (Str × U)}, RelF K H vs fs → RelF K H (putF f v vs) (fput f u fs)
  | _, _, .nil => .cons ⟨rfl, r⟩ .nil
  | _, _, .cons (a := p) (b := q) (l₁ := t) (l₂ := rest) a b => by
    obtain ⟨g, w⟩ := p
    obtain ⟨g', u'⟩ := q
    obtain ⟨rfl, rv⟩ := (show g = g' ∧ Rel K H w u' from a)
    unfold putF fput
    by_cases h : g = f
    · rw [if_pos h, if_pos h]
      exact .cons ⟨rfl, r⟩ b
    · rw [if_neg h, if_neg h]
      exact .cons ⟨rfl, rv⟩ (RelF.put r b)
theorem mem_putF {f : Str} {v : V} {P : Str → Prop} (hf : P f) : ∀ {vs : List (Str × V)}, (∀ x ∈ vs, P x.1) → ∀ x ∈ putF f v vs, P x.1
  | [], _, x, hx => by
    rw [show putF f v [] = [(f, v)] from rfl, List.mem_singleton] at hx
    rw [hx]
    exact hf
  | (g, y) :: r, h, x, hx => by
    unfold putF at hx
    by_cases e : g = f
    · rw [if_pos e] at hx
      rcases List.mem_cons.mp hx with rfl | hx
      · exact h (g, y) List.mem_cons_self
      · exact h x (List.mem_cons_of_mem _ hx)
    · rw [if_neg e] at hx
      rcases List.mem_cons.mp hx with rfl | hx
      · exact h (g, y) List.mem_cons_self
      · exact mem_putF hf (fun z hz => h z (List.mem_cons_of_mem _ hz)) x hx
theorem RelF.len {K : Fg} {H : Hp} {vs : List (Str × V)} {fs : List (Str × U)} (h : RelF K H vs fs) : vs.length = fs.length := Paired.length h
section
variable {X : Cx}
theorem se_fld {o : Expr} {f : Str} {g : WE} {pos : Pos} (hb : notSup o = true) (h1 : SE1 X g o) :
    SE1 X (fun σ M Q => g σ M fun x M1 => ∃ p c fs v, x = .ref p ∧ M1 p = some (.obj c fs) ∧ fs.lookup f = some v ∧ Q v M1) (.Attribute o f pos) := by
  obtain ⟨t1, p1, q1⟩ := h1
  refine ⟨_, pe_fld p1 (base_of hb), fun σ H σu M Qu Q rs S hf c => ?_⟩
  refine q1 σ H σu M _ _ rs S hf fun v H1 u M1 st S1 r hq => ?_
  obtain ⟨p, cn, fs, w, rfl, hm, hl, hq⟩ := hq
  obtain ⟨dx, vs, e, rf, cl, na⟩ := S1 _ _ hm
  cases r
  obtain ⟨y, hy, ry, mem⟩ := RelF.get rf hl
  exact ⟨p, cad X.K cn, dx, vs, y, rfl, e, cl, na _ mem, hy, (c.tr S st).at_ S1 ry hq⟩
theorem eval_meth {env : Env} {o : Expr} {m : Str} {apos pos : Pos} {args : List Expr} (hb : notSup o = true) (hall : args.all (fun e => !isStar e) = true) (hl : args.length < 10) (hline : (apos.endLine == pos.line) = true) :
    eval (.Call (.Attribute o m apos) args [] pos) env = (do
      let ov ← eval o env
      standAt apos.atName
      let (f, first) ← holding [ov] (getMethod ov m (do return (← importBound o env).getD true))
      callWith pos f first (backTo pos (starEach args env)) (backToKw pos (keywordEach [] env))) := by
  rw [arm_eval_Call, base_of hb]
  have hform : methodCallForm (args.length + ([] : List Keyword).length) (backTo pos (starEach args env)) (backToKw pos (keywordEach [] env)) = true := few_args hall hl
  have hpos : methodCallPos true o env apos pos = pure pos := by unfold methodCallPos; simp [hline]
  unfold methodCall
  rw [hform, hpos]
  simp only [pure_bind]
  rfl
theorem se_meth {k : Nat} {f : Addr} {fd : FuncData} {ps : List Str} {m cn : Str} {o : Expr} {es : List Expr} {g : WE} {gl : WL} {c : List U → Hm → QU → Prop} {apos pos : Pos} (F : FnOk X.prog X.w X.K X.mg X.base CX0 k f fd ps (spOf X.K c)) (hr : Room k X.A) (cl : Cls X.K (cad X.K cn)) (hm : Meth X.K (cad X.K cn) m f)
    (hb : Binds X.K fd ps []) (hs : es.all (fun e => !isStar e) = true) (hl : es.length < 10) (hline : (apos.endLine == pos.line) = true) (hn : notSup o = true) (h1 : SE1 X g o) (h : SA X gl es) (hg0 : es = [] → gl = fun _ M Q => Q [] M) :
    SE1 X (fun σ M Q => g σ M fun x M1 => (∃ p fs, x = .ref p ∧ M1 p = some (.obj cn fs) ∧ fs.lookup m = none) ∧ gl σ M1 fun xs M2 => c (x :: xs) M2 Q) (.Call (.Attribute o m apos) es [] pos) := by
  obtain ⟨t1, p1, q1⟩ := h1
  obtain ⟨t, pt, q⟩ := h
  cases es with
  | nil =>
    rw [hg0 rfl]
    refine ⟨_, pe_meth0 p1 cl hm F hr hb .nil pass0 (eval_meth hn hs hl hline), fun σ H σu M Qu Q rs S hf ct => ?_⟩
    refine q1 σ H σu M _ _ rs S hf fun v H1 u M1 st S1 r hq => ?_
    obtain ⟨⟨p, fs, rfl, e, lk⟩, hq⟩ := hq
    obtain ⟨dx, vs, e1, rf, _, _⟩ := S1 _ _ e
    cases r
    exact ⟨p, dx, vs, rfl, e1, rf.no lk, [.ref p], M1, Qu, S1, .cons (.ref p) .nil, hq, ct.tr S st⟩
  | cons e es =>
    have hs2 : isStar e = false ∧ es.all (fun e => !isStar e) = true := by
      rw [List.all_cons, Bool.and_eq_true] at hs
      exact ⟨by simpa using hs.1, hs.2⟩
    refine ⟨_, pe_meth p1 cl hm F hr hb .nil pass0 pt (star_cons hs2.1) (star_plain hs2.2) (eval_meth hn hs hl hline), fun σ H σu M Qu Q rs S hf ct => ?_⟩
    refine q1 σ H σu M _ _ rs S hf fun v H1 u M1 st S1 r hq => ?_
    obtain ⟨⟨p, fs, rfl, e, lk⟩, hq⟩ := hq
    obtain ⟨dx, vs, e1, rf, _, _⟩ := S1 _ _ e
    cases r
    refine ⟨p, dx, vs, rfl, e1, rf.no lk, ?_⟩
    refine q σ H1 σu M1 _ _ (rs.stp S st) S1 hq fun vs H2 us M2 st2 S2 rl hq2 => ?_
    rw [List.append_nil]
    exact ⟨.ref p :: us, M2, Qu, S2, .cons (.ref p) rl, hq2, ct.tr S (st.trans S st2)⟩
theorem new_obj {K : Fg} {H : Hp} {M : Hm} (S : Sim K H M) {cn : Str} (cl : Cls K (cad K cn)) {x dx : Addr} (hx : H x = none) (hd : H dx = none) (ne : dx ≠ x) :
    Stp H M (upd (upd H dx (.own x)) x (.ins (cad K cn) dx [])) (um M x (.obj cn [])) ∧ Sim K (upd (upd H dx (.own x)) x (.ins (cad K cn) dx [])) (um M x (.obj cn [])) := by
  have s1 : Stp H M (upd H dx (.own x)) M := Stp.newT S hd
  have S1 : Sim K (upd H dx (.own x)) M := S.to s1 fun a o e => .inl ⟨e, upd_ne fun z => by
    have q := S.fr hd
    rw [z, q] at e
    cases e⟩
  have h2 : upd H dx (.own x) x = none := by rw [upd_ne (Ne.symm ne)]; exact hx
  exact ⟨s1.trans S (Stp.new S1 h2), S1.new (m := .obj cn []) h2 ⟨dx, [], upd_same, .nil, cl, fun z hz => nomatch hz⟩⟩
theorem ev_make {k : List U → Hm → QU → Prop} {cn : Str} {g : WL} {t : TA} (cl : Cls X.K (cad X.K cn)) (q : EvL X.K t g) :
    EvE X.K (fun σ H Q => t σ H fun vs H1 => ∀ x dx, H1 x = none → H1 dx = none → dx ≠ x → CRs X.K k (.ref x :: (vs ++ [])) (upd (upd H1 dx (.own x)) x (.ins (cad X.K cn) dx [])) (fun v H2 => v = .non ∧ Q (.ref x) H2))
      (fun σ M Q => g σ M fun xs M1 => ∀ p, M1 p = none → k (.ref p :: xs) (um M1 p (.obj cn [])) fun u M2 => u = .non ∧ Q (.ref p) M2) := fun σ H σu M Qu Q rs S hf ct => by
  refine q σ H σu M _ _ rs S hf fun vs H1 us M1 st S1 r1 hq x dx hx hd ne => ?_
  obtain ⟨s2, S2⟩ := new_obj S1 cl hx hd ne
  rw [List.append_nil]
  refine ⟨.ref x :: us, um M1 x (.obj cn []), _, S2, .cons (.ref x) (r1.stp S1 s2), hq x (S1.fr hx), fun v H3 u M3 s3 S3 rv hq3 => ?_⟩
  obtain ⟨rfl, hq3⟩ := hq3
  cases rv
  exact ⟨rfl, ct _ _ (.ref x) M3 ((st.trans S s2).trans S s3) S3 (.ref x) hq3⟩
theorem se_make {k : Nat} {f : Addr} {fd : FuncData} {ps : List Str} {x : Str} {es : List Expr} {gl : WL} {c : List U → Hm → QU → Prop} {p pos : Pos} (Mk_ : Mk X.K (cad X.K x) f) (F : FnOk X.prog X.w X.K X.mg X.base CX0 k f fd ps (spOf X.K c)) (hr : Room (k + 1) X.A) (hg : Gl X x) (hm : X.mg x = some (.ref (cad X.K x)))
    (cl : Cls X.K (cad X.K x)) (hb : Binds X.K fd ps []) (hdb : (x == ("__debug__" : Str)) = false) (hs : es.all (fun e => !isStar e) = true) (h : SA X gl es) (hg0 : es = [] → gl = fun _ M Q => Q [] M) :
    SE1 X (fun σ M Q => gl σ M fun xs M1 => ∀ p, M1 p = none → c (.ref p :: xs) (um M1 p (.obj x [])) fun u M2 => u = .non ∧ Q (.ref p) M2) (.Call (.Name x p) es [] pos) := by
  obtain ⟨t, pt, q⟩ := h
  cases es with
  | nil =>
    rw [hg0 rfl]
    exact ⟨_, pe_make0 Mk_ F hr hg hm hb .nil pass0 hdb, ev_make cl (fun σ H σu M Qu Q rs S hf ct => ct _ _ _ _ (Stp.refl H M) S .nil hf)⟩
  | cons e es =>
    have hs2 : isStar e = false ∧ es.all (fun e => !isStar e) = true := by
      rw [List.all_cons, Bool.and_eq_true] at hs
      exact ⟨by simpa using hs.1, hs.2⟩
    exact ⟨_, pe_make Mk_ F hr hg hm hb .nil pass0 pt hdb (star_cons hs2.1) (star_plain hs2.2), ev_make cl q⟩
theorem se_prop {k : Nat} {pa f : Addr} {fd : FuncData} {ps : List Str} {m cn : Str} {o : Expr} {g : WE} {c : List U → Hm → QU → Prop} {pos : Pos} (F : FnOk X.prog X.w X.K X.mg X.base CX0 k f fd ps (spOf X.K c)) (hr : Room (k + 1) X.A) (cl : Cls X.K (cad X.K cn)) (hp : PropOf X.K (cad X.K cn) m pa f)
    (hb : Binds X.K fd ps []) (hn : notSup o = true) (h1 : SE1 X g o) :
    SE1 X (fun σ M Q => g σ M fun x M1 => (∃ p fs, x = .ref p ∧ M1 p = some (.obj cn fs)) ∧ c [x] M1 Q) (.Attribute o m pos) := by
  obtain ⟨t1, p1, q1⟩ := h1
  refine ⟨_, pe_prop p1 cl hp F hr hb .nil pass0 (base_of hn), fun σ H σu M Qu Q rs S hf ct => ?_⟩
  refine q1 σ H σu M _ _ rs S hf fun v H1 u M1 st S1 r hq => ?_
  obtain ⟨⟨p, fs, rfl, e⟩, hq⟩ := hq
  obtain ⟨dx, vs, e1, rf, _, _⟩ := S1 _ _ e
  cases r
  exact ⟨p, dx, vs, rfl, e1, [.ref p], M1, Qu, S1, .cons (.ref p) .nil, hq, ct.tr S st⟩
theorem se_gl {x : Str} {v : V} {u : U} {w : Value} {p : Pos} (hg : Gl X x) (hm : X.mg x = some w) (r : RelV v w) (ru : ∀ H, Rel X.K H v u) (hdb : (x == ("__debug__" : Str)) = false) : SE1 X (fun _ M Q => Q u M) (.Name x p) :=
  ⟨_, pe_glob hg hm r hdb, fun _ H _ _ _ _ _ S q c => c.at_ S (ru H) q⟩
theorem se_setdef {o e d : Expr} {f g h : WE} {apos pos : Pos} (hs : isStar e = false) (hs2 : isStar d = false) (hline : (apos.endLine == pos.line) = true) (hb : notSup o = true) (h1 : SE1 X f o) (h2 : SE1 X g e) (h3 : SE1 X h d) :
    SE1 X (fun σ M Q => f σ M fun x M1 => isDW x M1 ∧ g σ M1 fun y M2 => h σ M2 fun v M3 => setdefW x y v M3 Q) (.Call (.Attribute o "setdefault" apos) [e, d] [] pos) := by
  obtain ⟨t1, p1, q1⟩ := h1
  obtain ⟨t2, p2, q2⟩ := h2
  obtain ⟨t3, p3, q3⟩ := h3
  have hall : [e, d].all (fun e => !isStar e) = true := by simp [hs, hs2]
  refine ⟨_, pe_dsetd p1 p2 p3 ⟨base_of hb, few_args hall (by simp), hline, by rw [star_cons hs, star_cons hs2]; rfl⟩, fun σ H σu M Qu Q rs S hf c => ?_⟩
  refine q1 σ H σu M _ _ rs S hf fun v H1 u M1 st S1 r hq => ?_
  obtain ⟨⟨p, z, t, ks, rfl, hm⟩, hq⟩ := hq
  cases r
  have hd : IsD H1 p := by
    have q := S1 p _ hm
    cases t with
    | false => obtain ⟨kvs, e, _⟩ := q; exact .inl ⟨kvs, fz_rd e⟩
    | true => obtain ⟨kvs, e, _⟩ := q; exact .inr ⟨kvs, fz_rd e⟩
  refine ⟨p, rfl, hd, ?_⟩
  refine q2 σ H1 σu M1 _ _ (rs.stp S st) S1 hq fun y H2 uy M2 st2 S2 ry hq2 => ?_
  refine q3 σ H2 σu M2 _ _ (rs.stp S (st.trans S st2)) S2 hq2 fun w H3 uw M3 st3 S3 rw' hq3 => ?_
  obtain ⟨p', ks', e, hm3, hk, hl, hq3⟩ := hq3
  cases e
  have cc := c.tr S ((st.trans S st2).trans S st3)
  obtain ⟨kvs, e3, rk⟩ := S3 _ _ hm3
  have e3 : H3 p = some (.dK kvs) := e3
  obtain ⟨key, e1, e2⟩ := isKey_of hk (ry.stp S2 st3)
  refine ⟨kvs, key, e3, e2, by rw [rk.len]; exact lt_line hl, fun v hv => ?_, fun hv => ?_⟩
  · rcases rk.find key with ⟨h1, h2⟩ | ⟨v', u', h1, h2, h3⟩
    · rw [h1] at hv; cases hv
    · rw [h1] at hv
      cases hv
      rw [e1, h2] at hq3
      exact cc.at_ S3 h3 hq3
  · rcases rk.find key with ⟨h1, h2⟩ | ⟨v', u', h1, h2, h3⟩
    · rw [e1, h2] at hq3
      have st4 : Stp H3 M3 (upd H3 p (.dK (putK kvs key w))) (um M3 p (.dct false false (dput ks' (keyU key) uw))) := Stp.mut hm3
      refine cc _ _ uw _ st4 (S3.mut (m := .dct false false (dput ks' (keyU key) uw)) hm3 rfl ⟨_, upd_same, ?_⟩) (rw'.stp S3 st4) hq3
      exact RelK.put (Paired.mapR rk fun p q x => ⟨x.1, x.2.stp S3 st4⟩) key (rw'.stp S3 st4)
    · rw [h1] at hv; cases hv
theorem relL_strs {K : Fg} {H : Hp} : ∀ {ns : List Str} {vs : List V}, RelL K H vs (ns.map U.str) → vs = ns.map V.str
  | [], vs, h => by cases h; rfl
  | n :: ns, vs, h => by
    cases h with
    | cons a b => cases a; rw [relL_strs b]; rfl
def rTidx (K : Fg) : V → List V → Hp → VK → Prop := fun x xs H Q => ∃ p, ∃ ys : List Str, ∃ z j, x = .ref p ∧ xs = [.str z] ∧ SqT K H p (ys.map V.str) ∧ ys[j]? = some z ∧ (∀ m, m < j → ys[m]? ≠ some z) ∧ Q (.int (j : Nat)) H
theorem se_tidx {o e : Expr} {f g : WE} {apos pos : Pos} (hs : isStar e = false) (hline : (apos.endLine == pos.line) = true) (hb : notSup o = true) (h1 : SE1 X f o) (h2 : SE1 X g e) :
    SE1 X (fun σ M Q => f σ M fun x M1 => (∃ l, x = .dtp l) ∧ g σ M1 fun y M2 => tidxW x y M2 Q) (.Call (.Attribute o "index" apos) [e] [] pos) := by
  obtain ⟨t1, p1, q1⟩ := h1
  obtain ⟨t2, p2, q2⟩ := h2
  have pa := pa_cons p2 (pa_nil (X := X)) (star_cons hs)
  refine ⟨fun σ H Q => t1 σ H fun x H1 => (∃ a vs, x = .ref a ∧ Td X.K H1 a vs) ∧ (tCons t2 tNil) σ H1 fun xs H2 => rTidx X.K x xs H2 Q,
    ⟨fun pins s σ H Q I h => ?_⟩, fun σ H σu M Qu Q rs S hf c => ?_⟩
  · refine wpAny_Call_method_late (base_of hb) (few_args (by simp [hs]) (by simp)) hline rfl (thn (p1.run pins s σ H _ I h) fun v s1 ⟨x, H1, I1, r1, ⟨a, vs, ex, td⟩, q⟩ => ?_)
    subst ex
    obtain rfl : v = Value.ref a := r1
    obtain ⟨ob, eo, hd⟩ := td
    obtain ⟨hg, hz, its, rv, ho⟩ := (show ObjOk X.prog X.w H1 s1.heap a (.frz ob (.tup vs)) from I1.hok a _ eo)
    refine ⟨"tuple", "tuple.index", PySem.F.plainAttrs_tuple, PySem.F.slot_tuple_index, PySem.F.type_tuple_index, ?_, fun b e => ?_, ?_⟩
    · obtain ⟨o2, h2, h3, _⟩ := ho
      exact ⟨o2, h2, h3⟩
    · cases e
      exact ⟨ob, hg, hd⟩
    · have hA := pa.run pos pins s1 σ H1 _ I1 q
      rw [star_cons hs] at hA ⊢
      refine Calls.callWith_builtin (by rfl) (Calls.evalArgs_plain ?_)
      exact thn hA fun us s2 ⟨vs, H2, I2, r2, q2⟩ => mt_tup_index pins s2 σ H2 (.ref a) vs (.ref a) us Q I2 rfl r2 q2
  · refine q1 σ H σu M _ _ rs S hf fun v H1 u M1 st S1 r hq => ?_
    obtain ⟨⟨l, rfl⟩, hq⟩ := hq
    cases r with
    | dtp td rl =>
      refine ⟨⟨_, _, rfl, td⟩, ?_⟩
      refine q2 σ H1 σu M1 _ _ (rs.stp S st) S1 hq fun y H2 uy M2 st2 S2 ry hq2 => ?_
      obtain ⟨ys, z, j, e1, rfl, h3, h4, hq2⟩ := hq2
      cases e1
      cases ry
      have rl2 := relL_strs (rl.stp S1 st2)
      subst rl2
      exact ⟨_, ys, z, j, rfl, rfl, (td.stp S1 st2).sq, h3, h4, (c.tr S (st.trans S st2)).at_ S2 (.int _) hq2⟩
theorem rel_rg {K : Fg} {H : Hp} (a b : Int) : RelL K H (rgV a b) (rngU a b) := by
  unfold rgV rngU
  generalize List.range (b - a).toNat = l
  induction l with
  | nil => exact .nil
  | cons i l ih => exact .cons (.int _) ih
theorem rg_ok {a b : Int} (h1 : b ≤ LIM) (h2 : -LIM ≤ b) (h3 : a ≤ LIM) (h4 : -LIM ≤ a) : RgOk a b := by
  unfold LIM at *
  refine ⟨by omega, by omega, by omega, by omega, by omega⟩
/-- list(range(b)), tuple(range(b)) -/
theorem se_lrng1 {t : Bool} {b : Expr} {g : WE} {x y : Str} {p p2 pos pos2 : Pos} (hc : X.calm = true) (hx : x = if t = true then ("tuple" : Str) else ("list" : Str)) (hy : y = "range") (hg : Gl X x) (hm : X.mg x = none) (hg2 : Gl X y) (hm2 : X.mg y = none) (hs : isStar b = false) (h : SE1 X g b) :
    SE1 X (fun σ M Q => g σ M fun y M2 => ∃ n, y = .int n ∧ n ≤ LIM ∧ -LIM ≤ n ∧ (0 : Int) ≤ LIM ∧ -LIM ≤ (0 : Int) ∧ if t = true then Q (.tup (rngU 0 n)) M2 else ∀ p, M2 p = none → Q (.ref p) (um M2 p (.lst (rngU 0 n))))
      (.Call (.Name x p) [.Call (.Name y p2) [b] [] pos2] [] pos) := by
  obtain ⟨t1, p1, q1⟩ := h
  subst hy
  have pr := prg_1 (p := p2) (pos := pos2) hg2 hm2 p1 (star_cons hs)
  cases t with
  | true =>
    subst hx
    refine ⟨_, pe_tupRg hc hg hm pr (star_cons rfl), fun σ H σu M Qu Q rs S hf ct => ?_⟩
    refine q1 σ H σu M _ _ rs S hf fun v H1 u M1 st S1 r hq => ?_
    obtain ⟨n, rfl, b1, b2, b3, b4, hq⟩ := hq
    cases r
    exact ⟨n, rfl, rg_ok b1 b2 b3 b4, fun q hq2 => (ct.tr S st).tup S1 (rel_rg 0 n) hq hq2⟩
  | false =>
    subst hx
    refine ⟨_, pe_listRg hc hg hm pr (star_cons rfl), fun σ H σu M Qu Q rs S hf ct => ?_⟩
    refine q1 σ H σu M _ _ rs S hf fun v H1 u M1 st S1 r hq => ?_
    obtain ⟨n, rfl, b1, b2, b3, b4, hq⟩ := hq
    cases r
    exact ⟨n, rfl, rg_ok b1 b2 b3 b4, fun q hq2 => (ct.tr S st).lst S1 (rel_rg 0 n) hq hq2⟩
theorem se_lrng2 {t : Bool} {a b : Expr} {f g : WE} {x y : Str} {p p2 pos pos2 : Pos} (hc : X.calm = true) (hx : x = if t = true then ("tuple" : Str) else ("list" : Str)) (hy : y = "range") (hg : Gl X x) (hm : X.mg x = none) (hg2 : Gl X y) (hm2 : X.mg y = none) (hs : isStar a = false) (hs2 : isStar b = false) (h0 : SE1 X f a) (h : SE1 X g b) :
    SE1 X (fun σ M Q => f σ M fun x M1 => ∃ i, x = .int i ∧ g σ M1 fun y M2 => ∃ n, y = .int n ∧ n ≤ LIM ∧ -LIM ≤ n ∧ i ≤ LIM ∧ -LIM ≤ i ∧ if t = true then Q (.tup (rngU i n)) M2 else ∀ p, M2 p = none → Q (.ref p) (um M2 p (.lst (rngU i n))))
      (.Call (.Name x p) [.Call (.Name y p2) [a, b] [] pos2] [] pos) := by
  obtain ⟨t0, p0, q0⟩ := h0
  obtain ⟨t1, p1, q1⟩ := h
  subst hy
  have pr := prg_2 (p := p2) (pos := pos2) hg2 hm2 p0 p1 (star_cons hs) (star_cons hs2) (star_plain (by simp [hs2]))
  cases t with
  | true =>
    subst hx
    refine ⟨_, pe_tupRg hc hg hm pr (star_cons rfl), fun σ H σu M Qu Q rs S hf ct => ?_⟩
    refine q0 σ H σu M _ _ rs S hf fun v0 H0 u0 M0 st0 S0 r0 hq => ?_
    obtain ⟨i, rfl, hq⟩ := hq
    refine q1 σ H0 σu M0 _ _ (rs.stp S st0) S0 hq fun v H1 u M1 st S1 r hq => ?_
    obtain ⟨n, rfl, b1, b2, b3, b4, hq⟩ := hq
    cases r
    cases r0
    exact ⟨i, n, rfl, rfl, rg_ok b1 b2 b3 b4, fun q hq2 => (ct.tr S (st0.trans S st)).tup S1 (rel_rg i n) hq hq2⟩
  | false =>
    subst hx
    refine ⟨_, pe_listRg hc hg hm pr (star_cons rfl), fun σ H σu M Qu Q rs S hf ct => ?_⟩
    refine q0 σ H σu M _ _ rs S hf fun v0 H0 u0 M0 st0 S0 r0 hq => ?_
    obtain ⟨i, rfl, hq⟩ := hq
    refine q1 σ H0 σu M0 _ _ (rs.stp S st0) S0 hq fun v H1 u M1 st S1 r hq => ?_
    obtain ⟨n, rfl, b1, b2, b3, b4, hq⟩ := hq
    cases r
    cases r0
    exact ⟨i, n, rfl, rfl, rg_ok b1 b2 b3 b4, fun q hq2 => (ct.tr S (st0.trans S st)).lst S1 (rel_rg i n) hq hq2⟩
end
end Pl

set_option maxHeartbeats 4000000
/-! targets, comprehensions, statements -/
namespace Pl
open PySem L2
def ContS (K : Fg) (H : Hp) (M : Hm) (Qu : SU → Hm → Prop) (Q : L2.St → Hp → Prop) : Prop := ∀ σ' H' σu' M', Stp H M H' M' → RelS K H' σ' σu' → Sim K H' M' → Qu σu' M' → Q σ' H'
/-- a target, assigned -/
def EvG (K : Fg) (t : TG) (tg : Tg) : Prop := ∀ (x : V) (u : U) (σ : L2.St) (H : Hp) (σu : SU) (M : Hm) (Qu : SU → Prop) (Q : L2.St → Hp → Prop), RelS K H σ σu → Rel K H x u → tgW tg u σu Qu →
  (∀ σ' σu', RelS K H σ' σu' → Qu σu' → (∀ vs, (∀ i ∈ tg.slots, i ∈ vs) → L2.wipe σ' vs = L2.wipe σ vs) → Q σ' H) → t x σ H Q
def SG (X : Cx) (e : Expr) (tg : Tg) : Prop := ∃ t, PG X e t ∧ EvG X.K t tg
theorem setAll_len : ∀ (is : List Nat) (l : List U) (σ σ' : SU), setAll is l σ = some σ' → l.length = is.length
  | [], [], _, _, _ => rfl
  | [], _ :: _, _, _, h => by cases h
  | _ :: _, [], _, _, h => by cases h
  | i :: is, u :: us, σ, σ', h => by
    have q := setAll_len is us _ σ' h
    rw [List.length_cons, List.length_cons, q]
theorem wipe_set (σ : L2.St) (i : Nat) (x : Option V) : ∀ vs : List Nat, i ∈ vs → L2.wipe (σ.set i x) vs = L2.wipe σ vs
  | [], h => by cases h
  | v :: vs, h => by
    unfold L2.wipe
    by_cases hv : i ∈ vs
    · rw [wipe_set σ i x vs hv]
    · have e : i = v := by
        rcases List.mem_cons.mp h with e | e
        · exact e
        · exact absurd e hv
      subst e
      have h2 : ∀ ws : List Nat, i ∉ ws → L2.wipe (σ.set i x) ws = (L2.wipe σ ws).set i x := by
        intro ws
        induction ws with
        | nil => intro _; rfl
        | cons w ws ih =>
          intro hw
          have h3 : i ∉ ws := fun z => hw (List.mem_cons_of_mem _ z)
          have h4 : w ≠ i := fun z => hw (by rw [z]; exact List.mem_cons_self)
          unfold L2.wipe
          rw [ih h3, List.set_comm _ _ (fun z => h4 z.symm)]
      rw [h2 vs hv, List.set_set]
section
variable {X : Cx}
theorem sg_one {i : Nat} {x : Str} {pos : Pos} (hN : X.N.Nodup) (hi : X.N[i]? = some x) (hx : Loc X.env.scope x) (hf : X.fn x = true ∨ X.env.scope.names.lookup x = some .local) : SG X (.Name x pos) (.one i) :=
  ⟨_, pg_name hN hi hx hf, fun v u σ H σu M Qu Q rs r h c => c _ _ (rs.set r i) h fun vs hv => wipe_set σ i _ vs (hv i (by simp [Tg.slots]))⟩
def isName (c : Str → Bool) : Expr → Bool
  | .Name x _ => c x
  | _ => false
/-- the names and their slots -/
def namesB (N : List Str) (ok : Str → Bool) : List Nat → List Expr → Bool
  | [], [] => true
  | i :: is, .Name x _ :: es => decide (N[i]? = some x) && ok x && namesB N ok is es
  | _, _ => false
theorem names_each {N : List Str} {ok : Str → Bool} {env : Env} : ∀ {is : List Nat} {es : List Expr}, namesB N ok is es = true → (assignEach es env).length = is.length ∧ (assignEach es env).findIdx? (·.1) = none
  | [], [], _ => ⟨rfl, rfl⟩
  | i :: is, e :: es, h => by
    cases e <;> first | (simp [namesB] at h; done) | skip
    unfold namesB at h
    rw [Bool.and_eq_true] at h
    obtain ⟨a, b⟩ := names_each (env := env) h.2
    refine ⟨?_, ?_⟩
    · show (assignEach es env).length + 1 = is.length + 1
      rw [a]
    · show List.findIdx? (·.1) ((false, _) :: assignEach es env) = none
      rw [List.findIdx?_cons]
      simp only [Bool.false_eq_true, if_false]
      rw [b]
      rfl
  | [], _ :: _, h => by simp [namesB] at h
  | _ :: _, [], h => by simp [namesB] at h
theorem sgs_names {ok : Str → Bool} (hN : X.N.Nodup) (hok : ∀ x, ok x = true → Loc X.env.scope x ∧ (X.fn x = true ∨ X.env.scope.names.lookup x = some .local)) : ∀ {is : List Nat} {es : List Expr}, namesB X.N ok is es = true →
    ∃ t, PGs X es t ∧ ∀ (vs : List V) (us : List U) (σ : L2.St) (H : Hp) (σu σu' : SU) (Q : L2.St → Hp → Prop), RelS X.K H σ σu → RelL X.K H vs us → setAll is us σu = some σu' →
      (∀ σ', RelS X.K H σ' σu' → (∀ ws, (∀ i ∈ is, i ∈ ws) → L2.wipe σ' ws = L2.wipe σ ws) → Q σ' H) → t vs σ H Q
  | [], [], _ => ⟨_, pgs_nil, fun vs us σ H σu σu' Q rs r h c => by
    cases us with
    | nil =>
      cases r
      have e : some σu = some σu' := h
      cases e
      exact ⟨rfl, c σ rs fun _ _ => rfl⟩
    | cons _ _ => cases h⟩
  | i :: is, e :: es, h => by
    cases e <;> first | (simp [namesB] at h; done) | skip
    rename_i x pos
    unfold namesB at h
    rw [Bool.and_eq_true, Bool.and_eq_true] at h
    obtain ⟨⟨h1, h2⟩, h3⟩ := h
    obtain ⟨t, p, q⟩ := sgs_names hN hok h3
    obtain ⟨l1, l2⟩ := hok x h2
    refine ⟨_, pgs_cons (pg_name hN (of_decide_eq_true h1) l1 l2) p rfl, fun vs us σ H σu σu' Q rs r hs c => ?_⟩
    cases us with
    | nil => cases hs
    | cons u us =>
      cases r with
      | cons ra rb =>
        refine ⟨_, _, rfl, ?_⟩
        refine q _ _ _ H _ _ Q (rs.set ra i) rb hs fun σ' rs' hw => c σ' rs' fun ws hws => ?_
        rw [hw ws fun j hj => hws j (List.mem_cons_of_mem _ hj), wipe_set _ _ _ _ (hws i List.mem_cons_self)]
  | [], _ :: _, h => by simp [namesB] at h
  | _ :: _, [], h => by simp [namesB] at h
theorem sg_many {ok : Str → Bool} {is : List Nat} {es : List Expr} {k : Nat} {pos : Pos} (hc : X.calm = true) (hN : X.N.Nodup) (hok : ∀ x, ok x = true → Loc X.env.scope x ∧ (X.fn x = true ∨ X.env.scope.names.lookup x = some .local)) (h : namesB X.N ok is es = true) :
    SG X (.Tuple es k pos) (.many is) := by
  obtain ⟨t, p, q⟩ := sgs_names hN hok h
  obtain ⟨l1, l2⟩ := names_each (env := X.env) h
  refine ⟨_, pg_tup hc p l1 l2, fun v u σ H σu M Qu Q rs r hq c => ?_⟩
  obtain ⟨l, σ', rfl, hs, hq⟩ := hq
  cases r with
  | tup t1 rl =>
    have hlen : l.length = is.length := setAll_len is l σu σ' hs
    refine ⟨_, _, rfl, t1.sq, by rw [rl.length, hlen], ?_⟩
    exact q _ _ _ H _ _ Q rs rl hs fun σ1 rs1 hw => c σ1 σ' rs1 hq hw
end

/-! ### comprehensions -/
theorem Rel_updD {K : Fg} {H : Hp} {D : Addr} {xs ys : List V} (hD : H D = some (.lst xs)) : (∀ {v : V} {u : U}, Rel K H v u → Rel K (upd H D (.lst ys)) v u) ∧ (∀ {v : List V} {u : List U}, RelL K H v u → RelL K (upd H D (.lst ys)) v u) := by
  have tp : ∀ {a : Addr} {vs : List V}, Tp K H a vs → Tp K (upd H D (.lst ys)) a vs := fun {a vs} h => by
    have ne : a ≠ D := fun e => by
      have h2 : H a = some (.tup vs) := h
      rw [e, hD] at h2
      cases h2
    exact (upd_ne ne).trans h
  have td : ∀ {a : Addr} {vs : List V}, Td K H a vs → Td K (upd H D (.lst ys)) a vs := fun {a vs} h => by
    obtain ⟨o, h, d⟩ := h
    have ne : a ≠ D := fun e => by
      rw [e, hD] at h
      cases h
    exact ⟨o, (upd_ne ne).trans h, d⟩
  have rl : ∀ {a : Addr} {vs : List V}, Rl K H a vs → Rl K (upd H D (.lst ys)) a vs := fun {a vs} h => by
    rcases h with ⟨o, h⟩ | h
    · have ne : a ≠ D := fun e => by
        rw [e, hD] at h
        cases h
      exact .inl ⟨o, (upd_ne ne).trans h⟩
    · exact .inr h
  have both : ∀ n : Nat, (∀ {v : V} {u : U}, sizeOf u ≤ n → Rel K H v u → Rel K (upd H D (.lst ys)) v u) ∧ (∀ {v : List V} {u : List U}, sizeOf u ≤ n → RelL K H v u → RelL K (upd H D (.lst ys)) v u) := by
    intro n
    induction n with
    | zero =>
      refine ⟨fun {v u} h r => ?_, fun {v u} h r => ?_⟩
      · cases u <;> simp at h
      · cases u <;> simp at h
    | succ n ih =>
      refine ⟨fun {v u} h r => ?_, fun {v u} h r => ?_⟩
      · cases r with
        | non => exact .non
        | bl b => exact .bl b
        | int i => exact .int i
        | str x => exact .str x
        | ref a => exact .ref a
        | tup t rr => exact .tup (tp t) (ih.2 (by simp at h; omega) rr)
        | rol t rr => exact .rol (rl t) (ih.2 (by simp at h; omega) rr)
        | dtp t rr => exact .dtp (td t) (ih.2 (by simp at h; omega) rr)
      · cases r with
        | nil => exact .nil
        | cons a b => exact .cons (ih.1 (by simp at h; omega) a) (ih.2 (by simp at h; omega) b)
  exact ⟨fun {v u} r => (both _).1 (Nat.le_refl _) r, fun {v u} r => (both _).2 (Nat.le_refl _) r⟩
theorem Sim_updD {K : Fg} {H : Hp} {M : Hm} {D : Addr} {xs ys : List V} (S : Sim K H M) (hD : H D = some (.lst xs)) (hM : M D = none) : Sim K (upd H D (.lst ys)) M := fun a o e => by
  have ne : a ≠ D := fun z => by rw [z, hM] at e; cases e
  obtain ⟨f, g⟩ := @Rel_updD K H D xs ys hD
  have q := S a o e
  cases o with
  | lst us =>
    obtain ⟨vs, e1, r⟩ := q
    exact ⟨vs, by rw [upd_ne ne]; exact e1, g r⟩
  | dct z t ks =>
    cases t with
    | false => obtain ⟨kvs, e1, r⟩ := q; exact ⟨kvs, by rw [upd_ne ne]; exact e1, Paired.mapR r fun p q x => ⟨x.1, f x.2⟩⟩
    | true => obtain ⟨kvs, e1, r⟩ := q; exact ⟨kvs, by rw [upd_ne ne]; exact e1, Paired.mapR r fun p q x => ⟨x.1, f x.2⟩⟩
  | obj cn fs => obtain ⟨dx, vs, e1, r, r2⟩ := q; exact ⟨dx, vs, by rw [upd_ne ne]; exact e1, Paired.mapR r fun p q x => ⟨x.1, f x.2⟩, r2⟩
theorem wipe_wipe (σ : L2.St) (ws : List Nat) : L2.wipe (L2.wipe σ ws) ws = L2.wipe σ ws := by
  have gen : ∀ (us ws : List Nat) (τ : L2.St), (∀ i ∈ us, i ∈ ws) → L2.wipe (L2.wipe τ us) ws = L2.wipe τ ws := by
    intro us
    induction us with
    | nil => intro ws τ _; rfl
    | cons u us ih =>
      intro ws τ hsub
      show L2.wipe ((L2.wipe τ us).set u none) ws = _
      rw [wipe_set _ _ _ _ (hsub u List.mem_cons_self)]
      exact ih ws τ fun i hi => hsub i (List.mem_cons_of_mem _ hi)
  exact gen ws ws σ fun i hi => hi
abbrev stepW (tg : Tg) (fc : WT) (fe : WE) (σu : SU) : U → (Option U → Hm → Prop) → Hm → Prop := fun x k M => tgW tg x (wipU σu tg.slots) fun σ2 => fc σ2 M fun b M2 => if b = true then fe σ2 M2 fun y M3 => k (some y) M3 else k none M2
theorem comp_core {K : Fg} {tgr : TG} {tg : Tg} {tt : TT} {fc : WT} {te : TE} {fe : WE} {vs : List Nat} (qg : EvG K tgr tg) (qc : EvT K tt fc) (qe : EvE K te fe) (hvs : vs = tg.slots)
    {σ : L2.St} {σu : SU} {H1 : Hp} {M1 : Hm} {J : It} {items : List U} {g : Hm → Prop} {fin : List U → Hm → Prop} (rs : RelS K H1 σ σu) (S1 : Sim K H1 M1) (ok : ItOk K H1 M1 J items g) (hg0 : g M1)
    (hc : compL (stepW tg fc fe σu) g fin items [] M1) {Q : VK}
    (hfin : ∀ D acc accV H2 M2, H1 D = none → Stp H1 M1 H2 M2 → Sim K H2 M2 → M2 D = none → H2 D = some (.lst accV) → RelL K H2 accV acc → g M2 → fin acc M2 → Q (.ref D) H2) :
    ∀ D, H1 D = none → ∃ W : Nat → Nat → Hp → Prop, (∃ m, W 0 m (upd H1 D (.lst []))) ∧ ∀ i m H, W i m H →
      (J.stop i H ∧ Q (.ref D) H) ∨ (J.go i H ∧ ∃ Nx : Hp → Prop, (∀ H', Nx H' → ∃ m', m' < m ∧ W (i + 1) m' H') ∧ ∀ x H', J.yld i H x H' → tgr x (L2.wipe σ vs) H' fun σ2 H2 => L2.wipe σ2 vs = L2.wipe σ vs ∧ tt σ2 H2 fun b H3 =>
        if b = true then te σ2 H3 fun y H4 => ∃ acc, H4 D = some (.lst acc) ∧ acc.length < sizeLine ∧ Nx (upd H4 D (.lst (acc ++ [y]))) else Nx H3) := fun D hD => by
  have hMD : M1 D = none := S1.fr hD
  have neD : ∀ a o, H1 a = some o → a ≠ D := fun a o h z => by rw [z, hD] at h; cases h
  have neM : ∀ a o, M1 a = some o → a ≠ D := fun a o h z => by rw [z, hMD] at h; cases h
  let W : Nat → Nat → Hp → Prop := fun i m H2 => m = items.length - i ∧ i ≤ items.length ∧ ∃ (M2 : Hm) (acc : List U) (accV : List V), Stp H1 M1 H2 M2 ∧ Sim K H2 M2 ∧ M2 D = none ∧ H2 D = some (.lst accV) ∧ RelL K H2 accV acc ∧ g M2 ∧
    compL (stepW tg fc fe σu) g fin (items.drop i) acc M2
  refine ⟨W, ⟨items.length, by simp, Nat.zero_le _, M1, [], [], Stp.newT S1 hD, ?_, hMD, upd_same, .nil, hg0, hc⟩, ?_⟩
  · exact S1.to (Stp.newT S1 hD) fun a x e => .inl ⟨e, upd_ne (neM a x e)⟩
  · rintro i m H2 ⟨rfl, hi, M2, acc, accV, st2, S2, hMD2, hD2, racc, hg, hc⟩
    obtain ⟨go, stop⟩ := ok i H2 M2 st2 S2 hg
    by_cases hlt : i < items.length
    · right
      have hu : items[i]? = some items[i] := List.getElem?_eq_getElem hlt
      obtain ⟨jgo, jy⟩ := go _ hu
      refine ⟨jgo, fun H' => ∃ m', m' < items.length - i ∧ W (i + 1) m' H', fun H' h => h, fun x H3 hy => ?_⟩
      obtain ⟨st3, S3, rx⟩ := jy x H3 hy
      have hdrop : items.drop i = items[i] :: items.drop (i + 1) := List.drop_eq_getElem_cons hlt
      rw [hdrop] at hc
      have hc : tgW tg items[i] (wipU σu tg.slots) fun σ2 => fc σ2 M2 fun b M3 => if b = true then fe σ2 M3 fun y M4 => (g M4 ∧ ((some y : Option U).isSome = true → acc.length < LIM) ∧ compL (stepW tg fc fe σu) g fin (items.drop (i + 1)) (acc ++ (some y).toList) M4)
          else (g M3 ∧ ((none : Option U).isSome = true → acc.length < LIM) ∧ compL (stepW tg fc fe σu) g fin (items.drop (i + 1)) (acc ++ (none : Option U).toList) M3) := hc
      have rs3 : RelS K H3 (L2.wipe σ vs) (wipU σu tg.slots) := by
        rw [hvs]
        exact (rs.stp S1 (st2.trans S1 st3)).wipe _
      refine qg x items[i] (L2.wipe σ vs) H3 (wipU σu tg.slots) M2 _ _ rs3 rx hc fun σ4 σu4 rs4 hc4 hw => ?_
      refine ⟨by
        have e := hw vs (by rw [hvs]; exact fun i hi => hi)
        rw [e]
        exact wipe_wipe σ vs, ?_⟩
      refine qc σ4 H3 σu4 M2 _ _ rs4 S3 hc4 fun b H5 M5 st5 S5 hb => ?_
      have stA : Stp H1 M1 H5 M5 := (st2.trans S1 st3).trans S1 st5
      have hD3 := st3.keep D _ hD2 hMD2
      have hD5 := st5.keep D _ hD3.1 hD3.2
      cases b with
      | false =>
        obtain ⟨g5, _, hrest⟩ := hb
        refine ⟨_, by omega, rfl, by omega, M5, acc, accV, stA, S5, hD5.2, hD5.1, (racc.stp S2 st3).stp S3 st5, g5, ?_⟩
        simpa using hrest
      | true =>
        refine qe σ4 H5 σu4 M5 _ _ (rs4.stp S3 st5) S5 hb fun y H6 uy M6 st6 S6 ry hk => ?_
        obtain ⟨g6, hsz, hrest⟩ := hk
        have hD6 := st6.keep D _ hD5.1 hD5.2
        have racc6 := ((racc.stp S2 st3).stp S3 st5).stp S5 st6
        obtain ⟨f1, f2⟩ := @Rel_updD K H6 D accV (accV ++ [y]) hD6.1
        refine ⟨accV, hD6.1, by rw [racc6.length]; exact lt_line (hsz rfl), _, by omega, rfl, by omega, M6, acc ++ [uy], accV ++ [y], ⟨fun a o h n => ?_, fun a t ks e => ?_⟩, Sim_updD S6 hD6.1 hD6.2, hD6.2, upd_same, f2 (racc6.append (.cons ry .nil)), g6, hrest⟩
        · have z := (stA.trans S1 st6).keep a o h n
          exact ⟨by rw [upd_ne (neD a o h)]; exact z.1, z.2⟩
        · have z := (stA.trans S1 st6).lock a t ks e
          exact ⟨by rw [upd_ne (neM a _ e)]; exact z.1, z.2⟩
    · left
      have e : i = items.length := by omega
      subst e
      refine ⟨stop rfl, hfin D acc accV H2 M2 hD st2 S2 hMD2 hD2 racc hg ?_⟩
      have z := hc
      rw [List.drop_length] at z
      exact z
/-- the new list joins what may change -/
theorem join_new {K : Fg} {H : Hp} {M : Hm} {H1 : Hp} {M1 : Hm} {H2 : Hp} {M2 : Hm} {D : Addr} {acc : List U} {accV : List V} (S : Sim K H M) (st : Stp H M H1 M1) (S1 : Sim K H1 M1) (hD : H1 D = none) (st2 : Stp H1 M1 H2 M2) (S2 : Sim K H2 M2) (hD2 : H2 D = some (.lst accV)) (r : RelL K H2 accV acc) :
    Stp H M H2 (um M2 D (.lst acc)) ∧ Sim K H2 (um M2 D (.lst acc)) := by
  have z := st.trans S st2
  refine ⟨⟨fun a o h n => ?_, fun a t ks e => ?_⟩, fun a o ha => ?_⟩
  · have ne : a ≠ D := fun q => by
      have h2 := (st.keep a o h n).1
      rw [q, hD] at h2
      cases h2
    exact ⟨(z.keep a o h n).1, by rw [um_ne ne]; exact (z.keep a o h n).2⟩
  · have ne : a ≠ D := fun q => by
      obtain ⟨x, hx⟩ := (S a _ e).has
      have h2 := (st.lock a t ks e).1
      rw [hx, q, hD] at h2
      cases h2
    exact ⟨(z.lock a t ks e).1, by rw [um_ne ne]; exact (z.lock a t ks e).2⟩
  · by_cases hz : a = D
    · subst hz
      rw [um_same] at ha
      cases ha
      exact ⟨accV, hD2, r⟩
    · rw [um_ne hz] at ha
      exact S2 a o ha
theorem ev_comp {K : Fg} {ti : TI} {fi : WI} {tgr : TG} {tg : Tg} {tt : TT} {fc : WT} {te : TE} {fe : WE} {vs : List Nat} (qi : EvI K ti fi) (qg : EvG K tgr tg) (qc : EvT K tt fc) (qe : EvE K te fe) (hvs : vs = tg.slots) :
    EvE K (tLc ti tgr tt te vs) (compW fi tg fc fe) := fun σ H σu M Qu Q rs S hf c => by
  refine qi σ H σu M _ _ rs S hf fun J H1 items g ex M1 st S1 ok hg0 hex hq => ?_
  subst hex
  refine comp_core qg qc qe hvs (rs.stp S st) S1 ok hg0 hq fun D acc accV H2 M2 hD st2 S2 hMD2 hD2 r hg hfin => ?_
  obtain ⟨a, b⟩ := join_new S st S1 hD st2 S2 hD2 r
  exact c (.ref D) H2 (.ref D) _ a b (.ref D) (hfin D hMD2)
/-! ### over a dict's keys -/
theorem lock_stp {K : Fg} {H : Hp} {M : Hm} (S : Sim K H M) {d : Addr} {t : Bool} {ks : List (U × U)} (hm : M d = some (.dct false t ks)) :
    ∃ u, H d = some u ∧ Mut (some u) ∧ (∀ od, Stp H M (upd H d (.frz od u)) (um M d (.dct true t ks)) ∧ Sim K (upd H d (.frz od u)) (um M d (.dct true t ks)) ∧
      ((∃ kvs, u = .dK kvs ∧ RelK K H kvs ks ∧ t = false) ∨ ∃ kvs, u = .dT kvs ∧ RelT K H kvs ks ∧ t = true)) := by
  have q := S d _ hm
  cases t with
  | false =>
    obtain ⟨kvs, e, r⟩ := q
    refine ⟨_, e, trivial, fun od => ⟨Stp.mut hm, S.mut (m := .dct true false ks) hm rfl ⟨kvs, ⟨od, upd_same⟩, ?_⟩, .inl ⟨kvs, rfl, r, rfl⟩⟩⟩
    exact Paired.mapR r fun p q x => ⟨x.1, x.2.stp S (Stp.mut (m := .dct true false ks) hm)⟩
  | true =>
    obtain ⟨kvs, e, r⟩ := q
    refine ⟨_, e, trivial, fun od => ⟨Stp.mut hm, S.mut (m := .dct true true ks) hm rfl ⟨kvs, ⟨od, upd_same⟩, ?_⟩, .inr ⟨kvs, rfl, r, rfl⟩⟩⟩
    exact Paired.mapR r fun p q x => ⟨x.1, x.2.stp S (Stp.mut (m := .dct true true ks) hm)⟩
/-- what the walk yields -/
theorem it_keys {K : Fg} {H0 : Hp} {M0 : Hm} {d : Addr} {od : Obj} {kvs : List (Key × V)} {ks : List (U × U)} (e : H0 d = some (.frz od (.dK kvs))) (hm : M0 d = some (.dct true false ks)) (r : RelK K H0 kvs ks) : ItOk K H0 M0 (Itk d od kvs) (ks.map (·.1)) (fun M => M d = some (.dct true false ks)) := fun i H M st S hM => by
  have e2 : H d = some (.frz od (.dK kvs)) := by rw [(st.lock d _ _ hm).1, e]
  have rk := relK_keys r
  have hlen : kvs.length = (ks.map (·.1)).length := by rw [List.length_map]; exact RelK.len r
  refine ⟨fun u hu => ?_, fun hl => ⟨e2, by rw [hlen]; exact Nat.le_of_eq hl⟩⟩
  have hi : i < kvs.length := by rw [hlen]; exact (List.getElem?_eq_some_iff.mp hu).1
  refine ⟨⟨e2, hi⟩, fun x H' ⟨eH, k, v, hk, hx⟩ => ?_⟩
  subst eH hx
  refine ⟨Stp.refl _ M, S, ?_⟩
  obtain ⟨v2, h2, r2⟩ := rk.get hu
  rw [List.getElem?_map, hk] at h2
  cases h2
  cases k with
  | inl n =>
    have e3 : u = .int n := by cases r2; rfl
    rw [e3]
    exact .int n
  | inr n =>
    have e3 : u = .str n := by cases r2; rfl
    rw [e3]
    exact .str n
theorem relT_get {K : Fg} {H : Hp} : ∀ {kvs : List (List Key × V)} {ks : List (U × U)} {i : Nat} {u : U}, RelT K H kvs ks → (ks.map (·.1))[i]? = some u → ∃ k v, kvs[i]? = some (k, v) ∧ u = .tup (k.map keyU)
  | [], _, i, u, r, h => by unfold RelT at r; cases r; simp at h
  | (k, v) :: kvs, _, i, u, r, h => by
    unfold RelT at r
    cases r with
    | @cons p q ps qs a b => cases i with
      | zero =>
        simp at h
        exact ⟨k, v, rfl, by rw [← h]; exact a.1⟩
      | succ i =>
        obtain ⟨k2, v2, e1, e2⟩ := relT_get (K := K) (H := H) (kvs := kvs) (i := i) b (by simpa using h)
        exact ⟨k2, v2, by simpa using e1, e2⟩
theorem it_keysT {K : Fg} {H0 : Hp} {M0 : Hm} {d : Addr} {od : Obj} {kvs : List (List Key × V)} {ks : List (U × U)} (e : H0 d = some (.frz od (.dT kvs))) (hm : M0 d = some (.dct true true ks)) (r : RelT K H0 kvs ks) : ItOk K H0 M0 (Itkt d od kvs) (ks.map (·.1)) (fun M => M d = some (.dct true true ks)) := fun i H M st S hM => by
  have e2 : H d = some (.frz od (.dT kvs)) := by rw [(st.lock d _ _ hm).1, e]
  have hlen : kvs.length = (ks.map (·.1)).length := by rw [List.length_map]; exact RelT.len r
  refine ⟨fun u hu => ?_, fun hl => ⟨e2, by rw [hlen]; exact Nat.le_of_eq hl⟩⟩
  have hi : i < kvs.length := by rw [hlen]; exact (List.getElem?_eq_some_iff.mp hu).1
  refine ⟨⟨e2, hi⟩, fun x H' ⟨eH, k, v, q, hk, hx, ht⟩ => ?_⟩
  subst eH hx
  refine ⟨Stp.refl _ M, S, ?_⟩
  obtain ⟨k2, v2, h2, e3⟩ := relT_get r hu
  rw [hk] at h2
  cases h2
  rw [e3]
  exact .tup ht (relL_keys k)
/-- the walk over a locked dict that stands in a slot -/
theorem keys_run {K : Fg} {σ : L2.St} {H : Hp} {d : Addr} {i : Nat} {od : Obj} {u : HO} {t : Bool} {ks : List (U × U)} {M : Hm} {R : It → Hp → Prop} (hs : σ[i]? = some (some (.ref d))) (S : Sim K H M) (he : H d = some (.frz od u)) (hm : M d = some (.dct true t ks))
    (hu : (∃ kvs, u = .dK kvs ∧ RelK K H kvs ks ∧ t = false) ∨ ∃ kvs, u = .dT kvs ∧ RelT K H kvs ks ∧ t = true) (k : ∀ J, ItOk K H M J (ks.map (·.1)) (fun M => M d = some (.dct true t ks)) → R J H) : L2.iKeys (tVar i) σ H R := by
  refine ⟨_, hs, d, od, rfl, ?_⟩
  rcases hu with ⟨kvs, rfl, r, rfl⟩ | ⟨kvs, rfl, r, rfl⟩
  · exact .inl ⟨kvs, he, k _ (it_keys he hm r)⟩
  · exact .inr ⟨kvs, he, k _ (it_keysT he hm r)⟩
theorem hu_stp {K : Fg} {H H' : Hp} {M M' : Hm} (S : Sim K H M) (st : Stp H M H' M') {u : HO} {t : Bool} {ks : List (U × U)} (hu : (∃ kvs, u = .dK kvs ∧ RelK K H kvs ks ∧ t = false) ∨ ∃ kvs, u = .dT kvs ∧ RelT K H kvs ks ∧ t = true) :
    (∃ kvs, u = .dK kvs ∧ RelK K H' kvs ks ∧ t = false) ∨ ∃ kvs, u = .dT kvs ∧ RelT K H' kvs ks ∧ t = true := by
  rcases hu with ⟨kvs, e, r, e2⟩ | ⟨kvs, e, r, e2⟩
  · exact .inl ⟨kvs, e, Paired.mapR r fun p q x => ⟨x.1, x.2.stp S st⟩, e2⟩
  · exact .inr ⟨kvs, e, Paired.mapR r fun p q x => ⟨x.1, x.2.stp S st⟩, e2⟩
/-- unlocked again -/
theorem unlock_stp {K : Fg} {H : Hp} {M : Hm} {H1 : Hp} {M1 : Hm} {H2 : Hp} {M2 : Hm} {d : Addr} {od : Obj} {u : HO} {t : Bool} {ks : List (U × U)} (S : Sim K H M) (hm : M d = some (.dct false t ks)) (he1 : H1 d = some (.frz od u)) (hm1 : M1 d = some (.dct true t ks)) (st : Stp H M H1 M1) (S1 : Sim K H1 M1)
    (st2 : Stp H1 M1 H2 M2) (S2 : Sim K H2 M2) (hm2 : M2 d = some (.dct true t ks)) (hu : (∃ kvs, u = .dK kvs ∧ RelK K H2 kvs ks ∧ t = false) ∨ ∃ kvs, u = .dT kvs ∧ RelT K H2 kvs ks ∧ t = true) :
    H2 d = some (.frz od u) ∧ Stp H M (upd H2 d u) (um M2 d (.dct false t ks)) ∧ Sim K (upd H2 d u) (um M2 d (.dct false t ks)) ∧ (∀ v x, Rel K H2 v x → Rel K (upd H2 d u) v x) ∧ (∀ v x, RelL K H2 v x → RelL K (upd H2 d u) v x) := by
  have e2 : H2 d = some (.frz od u) := by rw [(st2.lock d _ _ hm1).1, he1]
  have tp : ∀ {a : Addr} {vs : List V}, Tp K H2 a vs → Tp K (upd H2 d u) a vs := fun {a vs} h => by
    have ne : a ≠ d := fun e => by
      have h2 : H2 a = some (.tup vs) := h
      rw [e, e2] at h2
      cases h2
    exact (upd_ne ne).trans h
  have noT : ∀ o vs, H2 d ≠ some (.frz o (.tup vs)) := fun o vs h => by
    rw [e2] at h
    rcases hu with ⟨kvs, rfl, _⟩ | ⟨kvs, rfl, _⟩ <;> cases h
  have td : ∀ {a : Addr} {vs : List V}, Td K H2 a vs → Td K (upd H2 d u) a vs := fun {a vs} h => by
    obtain ⟨o, h, dn⟩ := h
    have ne : a ≠ d := fun e => noT o vs (by rw [← e]; exact h)
    exact ⟨o, (upd_ne ne).trans h, dn⟩
  have nol : ∀ o vs, H2 d ≠ some (.frz o (.lst vs)) := fun o vs h => by
    rw [e2] at h
    rcases hu with ⟨kvs, rfl, _⟩ | ⟨kvs, rfl, _⟩ <;> cases h
  have rl : ∀ {a : Addr} {vs : List V}, Rl K H2 a vs → Rl K (upd H2 d u) a vs := fun {a vs} h => by
    rcases h with ⟨o, h⟩ | h
    · have ne : a ≠ d := fun e => nol o vs (by rw [← e]; exact h)
      exact .inl ⟨o, (upd_ne ne).trans h⟩
    · exact .inr h
  have both : ∀ n : Nat, (∀ {v : V} {x : U}, sizeOf x ≤ n → Rel K H2 v x → Rel K (upd H2 d u) v x) ∧ (∀ {v : List V} {x : List U}, sizeOf x ≤ n → RelL K H2 v x → RelL K (upd H2 d u) v x) := by
    intro n
    induction n with
    | zero =>
      refine ⟨fun {v u} h r => ?_, fun {v u} h r => ?_⟩
      · cases u <;> simp at h
      · cases u <;> simp at h
    | succ n ih =>
      refine ⟨fun {v u} h r => ?_, fun {v u} h r => ?_⟩
      · cases r with
        | non => exact .non
        | bl b => exact .bl b
        | int i => exact .int i
        | str x => exact .str x
        | ref a => exact .ref a
        | tup t rr => exact .tup (tp t) (ih.2 (by simp at h; omega) rr)
        | rol t rr => exact .rol (rl t) (ih.2 (by simp at h; omega) rr)
        | dtp t rr => exact .dtp (td t) (ih.2 (by simp at h; omega) rr)
      · cases r with
        | nil => exact .nil
        | cons a b => exact .cons (ih.1 (by simp at h; omega) a) (ih.2 (by simp at h; omega) b)
  have f1 : ∀ v x, Rel K H2 v x → Rel K (upd H2 d u) v x := fun v x r => (both _).1 (Nat.le_refl _) r
  have f2 : ∀ v x, RelL K H2 v x → RelL K (upd H2 d u) v x := fun v x r => (both _).2 (Nat.le_refl _) r
  have z := st.trans S st2
  refine ⟨e2, ⟨fun a o h n => ?_, fun a t' ks' e => ?_⟩, fun a o ha => ?_, f1, f2⟩
  · have ne : a ≠ d := fun q => by rw [q, hm] at n; cases n
    exact ⟨by rw [upd_ne ne]; exact (z.keep a o h n).1, by rw [um_ne ne]; exact (z.keep a o h n).2⟩
  · have ne : a ≠ d := fun q => by rw [q, hm] at e; cases e
    exact ⟨by rw [upd_ne ne]; exact (z.lock a _ _ e).1, by rw [um_ne ne]; exact (z.lock a _ _ e).2⟩
  · by_cases hz : a = d
    · subst hz
      rw [um_same] at ha
      cases ha
      rcases hu with ⟨kvs, rfl, r, rfl⟩ | ⟨kvs, rfl, r, rfl⟩
      · exact ⟨kvs, upd_same, Paired.mapR r fun p q x => ⟨x.1, f1 _ _ x.2⟩⟩
      · exact ⟨kvs, upd_same, Paired.mapR r fun p q x => ⟨x.1, f1 _ _ x.2⟩⟩
    · rw [um_ne hz] at ha
      have q := S2 a o ha
      cases o with
      | lst us =>
        obtain ⟨vs, e1, r⟩ := q
        exact ⟨vs, by rw [upd_ne hz]; exact e1, f2 _ _ r⟩
      | dct z t ks =>
        cases t with
        | false => obtain ⟨kvs, e1, r⟩ := q; exact ⟨kvs, by rw [upd_ne hz]; exact e1, Paired.mapR r fun p q x => ⟨x.1, f1 _ _ x.2⟩⟩
        | true => obtain ⟨kvs, e1, r⟩ := q; exact ⟨kvs, by rw [upd_ne hz]; exact e1, Paired.mapR r fun p q x => ⟨x.1, f1 _ _ x.2⟩⟩
      | obj cn fs => obtain ⟨dx, vs, e1, r, r2⟩ := q; exact ⟨dx, vs, by rw [upd_ne hz]; exact e1, Paired.mapR r fun p q x => ⟨x.1, f1 _ _ x.2⟩, r2⟩
def keysI (i : Nat) : WI := fun σ M Q => ∃ j d t ks, E.var i = .var j ∧ σ[j]? = some (some (.ref d)) ∧ M d = some (.dct false t ks) ∧
      Q (ks.map (·.1)) (fun M' => M' d = some (.dct true t ks)) (fun P M' => M' d = some (.dct true t ks) ∧ P (um M' d (.dct false t ks))) (um M d (.dct true t ks))
theorem ev_compK {K : Fg} {i : Nat} {tgr : TG} {tg : Tg} {tt : TT} {fc : WT} {te : TE} {fe : WE} {vs : List Nat} (qg : EvG K tgr tg) (qc : EvT K tt fc) (qe : EvE K te fe) (hvs : vs = tg.slots) :
    EvE K (tLockE (tLc (L2.iKeys (tVar i)) tgr tt te vs)) (compW (keysI i) tg fc fe) := fun σ H σu M Qu Q rs S hf c => by
  obtain ⟨j, d, t, ks, ej, hs, hm, hq⟩ := hf
  cases ej
  obtain ⟨v, hv, rv⟩ := rs.2 i _ hs
  obtain rfl : v = .ref d := by cases rv; rfl
  obtain ⟨u, hd, mu, lk⟩ := lock_stp S hm
  refine ⟨d, u, hd, mu, fun od => ?_⟩
  obtain ⟨st, S1, hu⟩ := lk od
  have hu1 := hu_stp S st hu
  refine keys_run hv S1 upd_same um_same hu1 fun J ok => ?_
  refine comp_core (Q := fun v H' => H' d = some (.frz od u) ∧ Q v (upd H' d u)) qg qc qe hvs (rs.stp S st) S1 ok um_same hq fun D acc accV H2 M2 hD st2 S2 hMD2 hD2 r hg hfin => ?_
  obtain ⟨e2, st3, S3, f1, f2⟩ := unlock_stp S hm upd_same um_same st S1 st2 S2 hg (hu_stp S1 st2 hu1)
  refine ⟨e2, ?_⟩
  have ne : D ≠ d := fun z => by rw [z, upd_same] at hD; cases hD
  have hD3 : (upd H2 d u) D = some (.lst accV) := by rw [upd_ne ne]; exact hD2
  have hHD : H D = none := (upd_ne (H := H) (o := HO.frz od u) ne).symm.trans hD
  obtain ⟨a, b⟩ := join_new S (Stp.refl H M) S hHD st3 S3 hD3 (f2 _ _ r)
  refine c (.ref D) _ (.ref D) _ a b (.ref D) (hfin.2 D ?_)
  rw [um_ne ne]
  exact hMD2
end Pl

set_option maxHeartbeats 4000000
/-! canonical readings; comprehensions as expressions; statements -/
namespace Pl
open PySem L2
def cE (K : Fg) (f : WE) : TE := fun σ H Q => ∃ (σu : SU) (M : Hm) (Qu : QU), RelS K H σ σu ∧ Sim K H M ∧ f σu M Qu ∧ Cont K H M Qu Q
def cT (K : Fg) (f : WT) : TT := fun σ H Q => ∃ (σu : SU) (M : Hm) (Qu : Bool → Hm → Prop), RelS K H σ σu ∧ Sim K H M ∧ f σu M Qu ∧ ContB K H M Qu Q
def cG (K : Fg) (tg : Tg) : TG := fun x σ H Q => ∃ (u : U) (σu : SU) (Qu : SU → Prop), RelS K H σ σu ∧ Rel K H x u ∧ tgW tg u σu Qu ∧
  ∀ σ' σu', RelS K H σ' σu' → Qu σu' → (∀ vs, (∀ i ∈ tg.slots, i ∈ vs) → L2.wipe σ' vs = L2.wipe σ vs) → Q σ' H
theorem ev_cE {K : Fg} {f : WE} : EvE K (cE K f) f := fun σ H σu M Qu Q rs S hf c => ⟨σu, M, Qu, rs, S, hf, c⟩
theorem ev_cT {K : Fg} {f : WT} : EvT K (cT K f) f := fun σ H σu M Qu Q rs S hf c => ⟨σu, M, Qu, rs, S, hf, c⟩
theorem ev_cG {K : Fg} {tg : Tg} : EvG K (cG K tg) tg := fun x u σ H σu M Qu Q rs r h c => ⟨u, σu, Qu, rs, r, h, c⟩
theorem SE1.pe {X : Cx} {f : WE} {x : Expr} (h : SE1 X f x) : PE X x (cE X.K f) := by
  obtain ⟨t, p, q⟩ := h
  exact ⟨fun pins s σ H Q I ⟨σu, M, Qu, rs, S, hf, c⟩ => p.run pins s σ H Q I (q σ H σu M Qu Q rs S hf c)⟩
theorem ST.pt {X : Cx} {f : WT} {x : Expr} (h : ST X f x) : PT X x (cT X.K f) := by
  obtain ⟨t, p, q⟩ := h
  exact ⟨fun pins s σ H Q I ⟨σu, M, Qu, rs, S, hf, c⟩ => p.run pins s σ H Q I (q σ H σu M Qu Q rs S hf c)⟩
theorem SG.pg {X : Cx} {x : Expr} {tg : Tg} (h : SG X x tg) : PG X x (cG X.K tg) := by
  obtain ⟨t, p, q⟩ := h
  exact ⟨fun pins s σ H v u Q I r ⟨a, σu, Qu, rs, ra, hf, c⟩ => p.run pins s σ H v u Q I r (q v a σ H σu (fun _ => none) Qu Q rs ra hf c)⟩
section
variable {X : Cx}
/-- the block of a comprehension -/
abbrev Blk (X : Cx) (scope : Scope) (s : Shared) (H : Hp) (C : Addr) (cl : List (Str × Addr)) (fp : List Addr) : Cx := X.blk s H scope (compEnvC scope cl C X.env) fp
theorem no_set {iter : Expr} {env : Env} (h : (match iter with | .Set _ _ _ => false | _ => true) = true) : ∀ x, foldedSetIterable iter env x = pure x := fun x => by
  cases iter <;> first | (cases h; done) | rfl
def notSet : Expr → Bool
  | .Set _ _ _ => false
  | _ => true
theorem no_set' {iter : Expr} {env : Env} (h : notSet iter = true) : ∀ x, foldedSetIterable iter env x = pure x := fun x => by
  cases iter <;> first | (cases h; done) | rfl
structure CompOk (X : Cx) (tgE elt : Expr) (ifs : List Expr) (scope : Scope) (own : List (Str × Nat)) (tg : Tg) (fc : WT) (fe : WE) : Prop where
  calm : X.calm = true
  nd : X.N.Nodup
  blk : BlkOk X.N X.env.scope scope own
  own : own.map (·.2) = tg.slots
  g : ∀ s H C cl fp, SG (Blk X scope s H C cl fp) tgE tg
  c : (ifs = [] ∧ fc = fun _ M Q => Q true M) ∨ ∃ i, ifs = [i] ∧ ∀ s H C cl fp, ST (Blk X scope s H C cl fp) fc i
  e : ∀ s H C cl fp, SE1 (Blk X scope s H C cl fp) fe elt
theorem CompOk.run {tgE elt : Expr} {ifs : List Expr} {scope : Scope} {own : List (Str × Nat)} {tg : Tg} {fc : WT} {fe : WE} (h : CompOk X tgE elt ifs scope own tg fc fe) :
    ∃ tt, (∀ s H C cl fp, PG (Blk X scope s H C cl fp) tgE (cG X.K tg)) ∧ (∀ s H C cl fp, PTs (Blk X scope s H C cl fp) ifs tt) ∧ (∀ s H C cl fp, PE (Blk X scope s H C cl fp) elt (cE X.K fe)) ∧ EvT X.K tt fc := by
  rcases h.c with ⟨rfl, rfl⟩ | ⟨i, rfl, hi⟩
  · exact ⟨tYes, fun s H C cl fp => (h.g s H C cl fp).pg, fun _ _ _ _ _ => pts_nil, fun s H C cl fp => (h.e s H C cl fp).pe, fun σ H σu M Qu Q rs S hf c => c _ _ _ (Stp.refl H M) S hf⟩
  · exact ⟨cT X.K fc, fun s H C cl fp => (h.g s H C cl fp).pg, fun s H C cl fp => pts_one (hi s H C cl fp).pt, fun s H C cl fp => (h.e s H C cl fp).pe, ev_cT⟩
theorem se_comp {tgE iter elt : Expr} {ifs : List Expr} {scope : Scope} {own : List (Str × Nat)} {tg : Tg} {fi : WI} {fc : WT} {fe : WE} {pos : Pos} (hi : SI X tgE iter fi) (h : CompOk X tgE elt ifs scope own tg fc fe) (hs : notSet iter = true) :
    SE1 X (compW fi tg fc fe) (.ListComp elt [⟨tgE, iter, ifs, 0⟩] scope pos) := by
  obtain ⟨ti, p, q⟩ := hi
  obtain ⟨tt, h1, h2, h3, h4⟩ := h.run
  exact ⟨_, pe_lc h.calm h.nd p h.blk h1 h2 h3 (no_set' hs), ev_comp q ev_cG h4 ev_cE h.own⟩
theorem se_compK {tgE iter elt : Expr} {i : Nat} {ifs : List Expr} {scope : Scope} {own : List (Str × Nat)} {tg : Tg} {fc : WT} {fe : WE} {pos : Pos} (hi : PE X iter (tVar i)) (h : CompOk X tgE elt ifs scope own tg fc fe) (hs : notSet iter = true) :
    SE1 X (compW (keysI i) tg fc fe) (.ListComp elt [⟨tgE, iter, ifs, 0⟩] scope pos) := by
  obtain ⟨tt, h1, h2, h3, h4⟩ := h.run
  exact ⟨_, pe_lock (pe_lc h.calm h.nd (pi_keys hi) h.blk h1 h2 h3 (no_set' hs)), ev_compK ev_cG h4 ev_cE h.own⟩
end

/-! ### statements -/
structure ContD (K : Fg) (H : Hp) (M : Hm) (Du : EndsU) (D : Ends) : Prop where
  nx : ContS K H M Du.nx D.nx
  rt : Cont K H M Du.rt D.rt
  bk : ContS K H M Du.bk D.bk
  ct : ContS K H M Du.ct D.ct
theorem ContS.tr {K : Fg} {H H1 : Hp} {M M1 : Hm} {Qu : SU → Hm → Prop} {Q : L2.St → Hp → Prop} (S0 : Sim K H M) (t : Stp H M H1 M1) (c : ContS K H M Qu Q) : ContS K H1 M1 Qu Q := fun σ' H' σu' M' t' rs S q => c σ' H' σu' M' (t.trans S0 t') rs S q
theorem ContD.tr {K : Fg} {H H1 : Hp} {M M1 : Hm} {Du : EndsU} {D : Ends} (S0 : Sim K H M) (t : Stp H M H1 M1) (c : ContD K H M Du D) : ContD K H1 M1 Du D := ⟨c.nx.tr S0 t, c.rt.tr S0 t, c.bk.tr S0 t, c.ct.tr S0 t⟩
abbrev WSt := EndsU → SU → Hm → Prop
def EvS (K : Fg) (t : TS) (f : WSt) : Prop := ∀ (D : Ends) (Du : EndsU) (σ : L2.St) (H : Hp) (σu : SU) (M : Hm), RelS K H σ σu → Sim K H M → f Du σu M → ContD K H M Du D → t D σ H
def SS (X : Cx) (f : WSt) (st : Stmt) : Prop := ∃ t, PS X st t ∧ EvS X.K t f
def SSs (X : Cx) (f : WSt) (sts : List Stmt) : Prop := ∃ t, PSs X sts t ∧ EvS X.K t f
section
variable {X : Cx}
theorem sss_nil : SSs X (fun D σ M => D.nx σ M) [] := ⟨_, pss_nil, fun D Du σ H σu M rs S h c => c.nx _ _ _ _ (Stp.refl H M) rs S h⟩
theorem sss_one {st : Stmt} {f : WSt} (h : SS X f st) : SSs X f [st] := by
  obtain ⟨t, p, q⟩ := h
  exact ⟨t, pss_one p, q⟩
theorem sss_cons {st : Stmt} {sts : List Stmt} {f g : WSt} (h1 : SS X f st) (h2 : SSs X g sts) : SSs X (fun D σ M => f { D with nx := g D } σ M) (st :: sts) := by
  obtain ⟨t1, p1, q1⟩ := h1
  obtain ⟨t2, p2, q2⟩ := h2
  refine ⟨_, pss_cons p1 p2, fun D Du σ H σu M rs S h c => ?_⟩
  exact q1 _ { Du with nx := g Du } σ H σu M rs S h ⟨fun σ' H' σu' M' st rs' S' hq => q2 D Du σ' H' σu' M' rs' S' hq (c.tr S st), c.rt, c.bk, c.ct⟩
theorem ss_pass {pos : Pos} : SS X (fun D σ M => D.nx σ M) (.Pass pos) := ⟨_, ps_pass, fun D Du σ H σu M rs S h c => c.nx _ _ _ _ (Stp.refl H M) rs S h⟩
theorem ss_break {pos : Pos} : SS X (fun D σ M => D.bk σ M) (.Break pos) := ⟨_, ps_break, fun D Du σ H σu M rs S h c => c.bk _ _ _ _ (Stp.refl H M) rs S h⟩
theorem ss_cont {pos : Pos} : SS X (fun D σ M => D.ct σ M) (.Continue pos) := ⟨_, ps_continue, fun D Du σ H σu M rs S h c => c.ct _ _ _ _ (Stp.refl H M) rs S h⟩
theorem ss_nvr {st : Stmt} : SS X (fun _ _ _ => False) st := ⟨_, ps_never, fun D Du σ H σu M rs S h c => h.elim⟩
theorem sss_nvr {st : List Stmt} : SSs X (fun _ _ _ => False) st := ⟨_, pss_never, fun D Du σ H σu M rs S h c => h.elim⟩
theorem ss_ret {e : Expr} {f : WE} {pos : Pos} (h : SE1 X f e) : SS X (fun D σ M => f σ M D.rt) (.Return (some e) pos) := by
  obtain ⟨t, p, q⟩ := h
  exact ⟨_, ps_ret p, fun D Du σ H σu M rs S h c => q σ H σu M _ _ rs S h c.rt⟩
theorem ss_retN {pos : Pos} : SS X (fun D _ M => D.rt .non M) (.Return none pos) := ⟨_, ps_retN, fun D Du σ H σu M rs S h c => c.rt.at_ S .non h⟩
def isComp : Expr → Bool
  | .ListComp .. => true
  | .SetComp .. => true
  | .DictComp .. => true
  | _ => false
theorem no_swap {e : Expr} {t : Option Expr} {l : Nat} {env : Env} (h : isComp e = false) : swapsWith e t l env = pure false := by
  cases e <;> first | (cases h; done) | rfl
theorem ss_expr {e : Expr} {f : WE} {pos : Pos} (hc : isComp e = false) (h : SE1 X f e) : SS X (fun D σ M => f σ M fun _ M1 => D.nx σ M1) (.Expr e pos) := by
  obtain ⟨t, p, q⟩ := h
  refine ⟨_, ps_expr p (no_swap hc), fun D Du σ H σu M rs S h c => ?_⟩
  exact q σ H σu M _ _ rs S h fun v H' u M' st S' r hq => c.nx _ _ _ _ st (rs.stp S st) S' hq
theorem ev_asg {K : Fg} {i : Nat} {t : TE} {f : WE} (q : EvE K t f) : EvS K (tAsg t (gName i)) (fun D σ M => f σ M fun x M1 => D.nx (σ.set i (some x)) M1) := fun D Du σ H σu M rs S h c => by
  exact q σ H σu M _ _ rs S h fun v H' u M' st S' r hq => c.nx _ _ _ _ st ((rs.stp S st).set r i) S' hq
theorem ss_asg {i : Nat} {x : Str} {e : Expr} {f : WE} {pos pos' : Pos} (hN : X.N.Nodup) (hi : X.N[i]? = some x) (hx : Loc X.env.scope x) (hs : swapsWith e (some (.Name x pos')) pos.line X.env = pure false) (hf : X.fn x = true) (h : SE1 X f e) :
    SS X (fun D σ M => f σ M fun x M1 => D.nx (σ.set i (some x)) M1) (.Assign [.Name x pos'] e pos) := by
  obtain ⟨t, p, q⟩ := h
  exact ⟨_, ps_set hN hi hx p hs (.inl hf), ev_asg q⟩
/-- a comprehension whose value goes to a name on its line -/
theorem ss_asgC {i : Nat} {y : Str} {tgE iter elt : Expr} {ifs : List Expr} {scope : Scope} {own : List (Str × Nat)} {tg : Tg} {fi : WI} {fc : WT} {fe : WE} {pos pos' spos : Pos} (hy : X.N[i]? = some y) (hyl : X.env.scope.names.lookup y = some .local)
    (hsw : swapsWith (.ListComp elt [⟨tgE, iter, ifs, 0⟩] scope pos) (some (.Name y pos')) spos.line X.env = pure true) (hi : SI X tgE iter fi) (h : CompOk X tgE elt ifs scope own tg fc fe) (hs : notSet iter = true) :
    SS X (fun D σ M => compW fi tg fc fe σ M fun x M1 => D.nx (σ.set i (some x)) M1) (.Assign [.Name y pos'] (.ListComp elt [⟨tgE, iter, ifs, 0⟩] scope pos) spos) := by
  obtain ⟨ti, p, q⟩ := hi
  obtain ⟨tt, h1, h2, h3, h4⟩ := h.run
  exact ⟨_, ps_setLc h.calm h.nd hy hyl hsw p h.blk h1 h2 h3 (no_set' hs), ev_asg (ev_comp q ev_cG h4 ev_cE h.own)⟩
theorem ev_lockS {K : Fg} {i j : Nat} {tgr : TG} {tg : Tg} {tt : TT} {fc : WT} {te : TE} {fe : WE} {vs : List Nat} (qg : EvG K tgr tg) (qc : EvT K tt fc) (qe : EvE K te fe) (hvs : vs = tg.slots) :
    EvS K (tLock (tAsg (tLc (L2.iKeys (tVar i)) tgr tt te vs) (gName j))) (fun D σ M => compW (keysI i) tg fc fe σ M fun x M1 => D.nx (σ.set j (some x)) M1) := fun D Du σ H σu M rs S hf c => by
  have q := ev_compK (K := K) (i := i) qg qc qe hvs σ H σu M _ (fun v H' => D.nx (σ.set j (some v)) H') rs S hf fun v H' u M' st S' r hq => c.nx _ _ _ _ st ((rs.stp S st).set r j) S' hq
  exact q
theorem ss_asgCK {i j : Nat} {y : Str} {tgE iter elt : Expr} {ifs : List Expr} {scope : Scope} {own : List (Str × Nat)} {tg : Tg} {fc : WT} {fe : WE} {pos pos' spos : Pos} (hy : X.N[j]? = some y) (hyl : X.env.scope.names.lookup y = some .local)
    (hsw : swapsWith (.ListComp elt [⟨tgE, iter, ifs, 0⟩] scope pos) (some (.Name y pos')) spos.line X.env = pure true) (hi : PE X iter (tVar i)) (h : CompOk X tgE elt ifs scope own tg fc fe) (hs : notSet iter = true) :
    SS X (fun D σ M => compW (keysI i) tg fc fe σ M fun x M1 => D.nx (σ.set j (some x)) M1) (.Assign [.Name y pos'] (.ListComp elt [⟨tgE, iter, ifs, 0⟩] scope pos) spos) := by
  obtain ⟨tt, h1, h2, h3, h4⟩ := h.run
  exact ⟨_, ps_lock (ps_setLc h.calm h.nd hy hyl hsw (pi_keys hi) h.blk h1 h2 h3 (no_set' hs)), ev_lockS ev_cG h4 ev_cE h.own⟩
theorem swapSole {e t : Expr} {l : Nat} {env : Env} (h : isComp e = false ∨ (match t with | .Name .. => false | _ => true) = true) : swapsWithSole [t] e l env = pure false := by
  show swapsWith e (some t) l env = pure false
  rcases h with h | h
  · exact no_swap h
  · cases e <;> first | rfl | (cases t <;> first | (cases h; done) | rfl)
theorem no_stores {e t : Expr} {env : Env} (h : (match e with | .Tuple .. => false | _ => true) = true ∨ (match t with | .Tuple .. => false | .List .. => false | _ => true) = true) : swappedStores [t] e env = pure none := by
  rcases h with h | h
  · cases e <;> first | (cases h; done) | (cases t <;> rfl)
  · cases t <;> first | (cases h; done) | (cases e <;> rfl)
def notTup : Expr → Bool
  | .Tuple .. => false
  | _ => true
theorem ss_asgT {is : List Nat} {es : List Expr} {ok : Str → Bool} {k : Nat} {e : Expr} {f : WE} {tpos pos : Pos} (hc : X.calm = true) (hN : X.N.Nodup) (hok : ∀ x, ok x = true → Loc X.env.scope x ∧ (X.fn x = true ∨ X.env.scope.names.lookup x = some .local)) (hn : namesB X.N ok is es = true)
    (ht : notTup e = true) (h : SE1 X f e) : SS X (fun D σ M => f σ M fun x M1 => ∃ l σ', x = .tup l ∧ setAll is l σ = some σ' ∧ D.nx σ' M1) (.Assign [.Tuple es k tpos] e pos) := by
  obtain ⟨t, p, q⟩ := h
  obtain ⟨tg, pg, qg⟩ := sg_many (k := k) (pos := tpos) hc hN hok hn
  refine ⟨_, ps_asg p pg (swapSole (.inr rfl)) (no_stores (.inl (by cases e <;> first | (cases ht; done) | rfl))) rfl, fun D Du σ H σu M rs S hf c => ?_⟩
  refine q σ H σu M _ _ rs S hf fun v H' u M' st S' r hq => ?_
  exact qg v u σ H' σu M' (fun σ' => Du.nx σ' M') _ (rs.stp S st) r hq fun σ1 σu1 rs1 hq1 _ => c.nx _ _ _ _ st rs1 S' hq1
theorem ss_setIx {o i e : Expr} {f g h : WE} {tpos pos : Pos} (hu : X.A.units + 1 < cLine) (h1 : SE1 X f e) (h2 : SE1 X g o) (h3 : SE1 X h i) (hs : notSlice i = true) :
    SS X (fun D σ M => f σ M fun v M1 => g σ M1 fun x M2 => h σ M2 fun y M3 => setW x y v M3 (D.nx σ)) (.Assign [.Subscript o i tpos] e pos) := by
  obtain ⟨t1, p1, q1⟩ := h1
  obtain ⟨t2, p2, q2⟩ := h2
  obtain ⟨t3, p3, q3⟩ := h3
  refine ⟨_, ps_asg p1 (pg_sub p2 p3 (set_S hu) (fun v => by cases i <;> first | (cases hs; done) | rfl)) (swapSole (.inr rfl)) (no_stores (.inr rfl)) rfl, fun D Du σ H σu M rs S hf c => ?_⟩
  refine q1 σ H σu M _ _ rs S hf fun v H1 u M1 st S1 r hq => ?_
  refine q2 σ H1 σu M1 _ _ (rs.stp S st) S1 hq fun v2 H2 u2 M2 st2 S2 r2 hq2 => ?_
  have s12 := st.trans S st2
  refine q3 σ H2 σu M2 _ _ (rs.stp S s12) S2 hq2 fun v3 H3 u3 M3 st3 S3 r3 hq3 => ?_
  have s13 := s12.trans S st3
  exact ⟨u2, u3, u, M3, _, S3, r2.stp S2 st3, r3, (r.stp S1 st2).stp S2 st3, hq3, fun H' M' st' S' hq' => c.nx _ _ _ _ (s13.trans S st') (rs.stp S (s13.trans S st')) S' hq'⟩
theorem ss_setF {cn f : Str} {o e : Expr} {g h : WE} {tpos pos : Pos} (cl : Cls X.K (cad X.K cn)) (na : NoAttr X.K (cad X.K cn) f) (h1 : SE1 X g e) (h2 : SE1 X h o) :
    SS X (fun D σ M => g σ M fun v M1 => h σ M1 fun x M2 => ∃ p fs, x = .ref p ∧ M2 p = some (.obj cn fs) ∧ fs.length < 1000 ∧ D.nx σ (um M2 p (.obj cn (fput f v fs)))) (.Assign [.Attribute o f tpos] e pos) := by
  obtain ⟨t1, p1, q1⟩ := h1
  obtain ⟨t2, p2, q2⟩ := h2
  refine ⟨_, ps_fld p2 p1 (show swapsWithSole [Expr.Attribute o f tpos] e pos.line X.env = pure false from swapSole (.inr rfl)), fun D Du σ H σu M rs S hf c => ?_⟩
  refine q1 σ H σu M _ _ rs S hf fun v H1 u M1 st S1 r hq => ?_
  refine q2 σ H1 σu M1 _ _ (rs.stp S st) S1 hq fun v2 H2 u2 M2 st2 S2 r2 hq2 => ?_
  obtain ⟨p, fs, rfl, hm, hl, hq2⟩ := hq2
  obtain ⟨dx, vs, e1, rf, _, nas⟩ := S2 _ _ hm
  cases r2
  have s12 := st.trans S st2
  have s3 : Stp H2 M2 (upd H2 p (.ins (cad X.K cn) dx (putF f v vs))) (um M2 p (.obj cn (fput f u fs))) := Stp.mut hm
  refine ⟨p, cad X.K cn, dx, vs, rfl, e1, cl, na, by rw [rf.len]; exact hl, ?_⟩
  refine c.nx _ _ _ _ (s12.trans S s3) (rs.stp S (s12.trans S s3)) (S2.mut (m := .obj cn (fput f u fs)) hm rfl ⟨dx, _, upd_same, ?_, cl, mem_putF (P := fun z => NoAttr X.K (cad X.K cn) z) na nas⟩) hq2
  exact RelF.put ((r.stp S1 st2).stp S2 s3) (Paired.mapR rf fun p q x => ⟨x.1, x.2.stp S2 s3⟩)
def iopOf : Bop → Option Operator
  | .add => some .Add
  | .sub => some .Sub
  | _ => none
theorem ip_S {op : Bop} {o : Operator} (h : iopOf op = some o) : PIp X o (fun x y H Q => ∃ a b, x = .int a ∧ y = .int b ∧ Q (.int (if op = .add then a + b else a - b)) H) := by
  cases op <;> first | (cases h; done) | skip
  · cases h
    exact ip_add
  · cases h
    exact ip_sub
theorem bin_int {op : Bop} {o : Operator} (h : iopOf op = some o) {a b : Int} {M : Hm} {Q : QU} (q : binW op (.int a) (.int b) M Q) : Q (.int (if op = .add then a + b else a - b)) M := by
  cases op <;> first | (cases h; done) | exact q
theorem ss_augV {i : Nat} {x : Str} {e : Expr} {f : WE} {op : Bop} {o : Operator} {pos pos' : Pos} (ho : iopOf op = some o) (hN : X.N.Nodup) (hi : X.N[i]? = some x) (hx : Loc X.env.scope x) (hf : X.fn x = true) (h : SE1 X f e) :
    SS X (fun D σ M => ∃ x, σ[i]? = some (some x) ∧ f σ M fun y M1 => ∃ a b, x = .int a ∧ y = .int b ∧ binW op x y M1 fun z M2 => D.nx (σ.set i (some z)) M2) (.AugAssign (.Name x pos') o e pos) := by
  obtain ⟨t, p, q⟩ := h
  refine ⟨_, ps_aug hN hi hx p (ip_S ho) (.inl hf), fun D Du σ H σu M rs S hf c => ?_⟩
  obtain ⟨u, hu, hf⟩ := hf
  obtain ⟨v, hv, rv⟩ := rs.2 i u hu
  refine ⟨v, hv, q σ H σu M _ _ rs S hf fun v2 H' u2 M' st S' r hq => ?_⟩
  obtain ⟨a, b, rfl, rfl, hq⟩ := hq
  have rv := rv.stp S st
  cases rv
  cases r
  exact ⟨a, b, rfl, rfl, c.nx _ _ _ _ st ((rs.stp S st).set (.int _) i) S' (bin_int ho hq)⟩
/-- o[i] by values -/
theorem get_S (hu : X.A.units + 1 < cLine) : PGet X (R2s X.K getW) := by
  intro pins s σ H o i ov iv Q I ro ri h
  obtain ⟨a, b, M, Qu, S, ra, rb, hf, c⟩ := h
  unfold getW at hf
  have hn := line63
  split at hf
  · rcases hf with ⟨us, j, w, h1, rfl, e, q⟩ | ⟨z, t, ks, w, h1, h2, e, q⟩
    · cases rb
      cases ra
      obtain ⟨vs, e2, r⟩ := S _ _ h1
      obtain ⟨v1, e1, r1⟩ := ix_pure r e
      obtain rfl : ov = Value.ref _ := ro
      obtain ⟨t', rfl⟩ := ri
      obtain ⟨its, r', pl, hz⟩ := I.list (.inl (.inl e2))
      obtain ⟨k, h1, h2, h3, h4, h5⟩ := atI_get e1
      obtain ⟨w', ew, rw'⟩ := r'.get h2
      have hl := r'.length
      have fin : EP X pins σ Q w' s := ⟨v1, H, I, rw', c.at_ S r1 q⟩
      by_cases h0 : 0 ≤ j
      · have hj : j.toNat = k := by
          rw [PySem.seqIndex_of h0 h5] at h1
          exact Option.some.inj h1
        exact PySem.wpAny_getItem_list (Q := EP X pins σ Q) pl.isList h0 (by omega) (by rw [hj]; simpa using ew) fin
      · have hj : (j + (its.toArray.size : Int)).toNat = k := by
          rw [PySem.seqIndex_neg (by omega) h4] at h1
          rw [List.size_toArray, ← hl]
          exact Option.some.inj h1
        exact PySem.wpAny_getItem_list_neg (Q := EP X pins σ Q) pl.isList (by omega) (by rw [List.size_toArray] <;> omega) (by omega) (by rw [hj]; simpa using ew) fin
    · obtain ⟨o', g, q2⟩ := dget_of S h1 h2 rb
      cases ra
      obtain rfl : ov = Value.ref _ := ro
      rcases q2 with ⟨_, e2⟩ | ⟨v1, u1, e1, e2, r1⟩
      · rw [e] at e2; cases e2
      · rw [e] at e2
        cases e2
        subst e1
        exact d_getItem hu I g ri fun w' s' I' rw' => ⟨_, H, I', rw', c.at_ S r1 q⟩
  · exact hf.elim
theorem ss_augIx {o i e : Expr} {f g h : WE} {op : Bop} {oo : Operator} {tpos pos : Pos} (ho : iopOf op = some oo) (hu : X.A.units + 1 < cLine) (h1 : SE1 X f o) (h2 : SE1 X g i) (h3 : SE1 X h e) (hs : notSlice i = true) :
    SS X (fun D σ M => f σ M fun x M1 => g σ M1 fun y M2 => getW x y M2 fun v M3 => h σ M3 fun z M4 => ∃ a b, v = .int a ∧ z = .int b ∧ binW op v z M4 fun r M5 => setW x y r M5 (D.nx σ)) (.AugAssign (.Subscript o i tpos) oo e pos) := by
  obtain ⟨t1, p1, q1⟩ := h1
  obtain ⟨t2, p2, q2⟩ := h2
  obtain ⟨t3, p3, q3⟩ := h3
  refine ⟨_, ps_augS p1 p2 (get_S hu) p3 (ip_S ho) (set_S hu) (fun ov iv new => by cases i <;> first | (cases hs; done) | rfl), fun D Du σ H σu M rs S hf c => ?_⟩
  refine q1 σ H σu M _ _ rs S hf fun v H1 u M1 st S1 r hq => ?_
  refine q2 σ H1 σu M1 _ _ (rs.stp S st) S1 hq fun v2 H2 u2 M2 st2 S2 r2 hq2 => ?_
  have s12 := st.trans S st2
  refine ⟨u, u2, M2, _, S2, r.stp S1 st2, r2, hq2, fun v3 H3 u3 M3 st3 S3 r3 hq3 => ?_⟩
  have s13 := s12.trans S st3
  refine q3 σ H3 σu M3 _ _ (rs.stp S s13) S3 hq3 fun v4 H4 u4 M4 st4 S4 r4 hq4 => ?_
  have s14 := s13.trans S st4
  obtain ⟨a, b, rfl, rfl, hq4⟩ := hq4
  cases r3
  cases r4
  refine ⟨a, b, rfl, rfl, ?_⟩
  have rr := ((r.stp S1 st2).stp S2 st3).stp S3 st4
  have rr2 := (r2.stp S2 st3).stp S3 st4
  exact ⟨u, u2, _, M4, _, S4, rr, rr2, .int _, bin_int ho hq4, fun H' M' st' S' hq' => c.nx _ _ _ _ (s14.trans S st') (rs.stp S (s14.trans S st')) S' hq'⟩
theorem ss_if {c0 : Expr} {a b : List Stmt} {fc : WT} {f g : WSt} {pos : Pos} (hc : ST X fc c0) (h1 : SSs X f a) (h2 : SSs X g b) : SS X (fun D σ M => fc σ M fun k M1 => if k = true then f D σ M1 else g D σ M1) (.If c0 a b pos) := by
  obtain ⟨t0, p0, q0⟩ := hc
  obtain ⟨t1, p1, q1⟩ := h1
  obtain ⟨t2, p2, q2⟩ := h2
  refine ⟨_, ps_if p0 p1 p2, fun D Du σ H σu M rs S hf c => ?_⟩
  refine q0 σ H σu M _ _ rs S hf fun k H1 M1 st S1 hq => ?_
  cases k with
  | true => exact q1 D Du σ H1 σu M1 (rs.stp S st) S1 hq (c.tr S st)
  | false => exact q2 D Du σ H1 σu M1 (rs.stp S st) S1 hq (c.tr S st)
theorem ss_whl {c0 : Expr} {b : List Stmt} {fc : WT} {f : WSt} {pos : Pos} (hx : X.xe = fun _ _ => False) (hc : ST X fc c0) (h1 : SSs X f b) :
    SS X (fun D σ M => ∃ W : Nat → SU → Hm → Prop, (∃ m, W m σ M) ∧ ∀ m σ M, W m σ M → fc σ M fun k M1 =>
      if k = true then f ⟨fun σ' M' => ∃ m', m' < m ∧ W m' σ' M', D.rt, D.nx, fun σ' M' => ∃ m', m' < m ∧ W m' σ' M'⟩ σ M1 else D.nx σ M1) (.While c0 b [] pos) := by
  obtain ⟨t0, p0, q0⟩ := hc
  obtain ⟨t1, p1, q1⟩ := h1
  refine ⟨_, ps_while (by rw [hx]; exact PassesOwn.never) p0 p1, fun D Du σ H σu M rs S hf c => ?_⟩
  obtain ⟨W, ⟨m0, w0⟩, turn⟩ := hf
  refine ⟨fun m σ2 H2 => ∃ σu2 M2, Stp H M H2 M2 ∧ RelS X.K H2 σ2 σu2 ∧ Sim X.K H2 M2 ∧ W m σu2 M2, ⟨m0, σu, M, Stp.refl H M, rs, S, w0⟩, ?_⟩
  rintro m σ2 H2 ⟨σu2, M2, st2, rs2, S2, w2⟩
  refine q0 σ2 H2 σu2 M2 _ _ rs2 S2 (turn m σu2 M2 w2) fun k H3 M3 st3 S3 hq => ?_
  have s3 := st2.trans S st3
  have rs3 := rs2.stp S2 st3
  cases k with
  | false => exact c.nx _ _ _ _ s3 rs3 S3 hq
  | true =>
    refine ⟨fun σ' H' => ∃ m', m' < m ∧ ∃ σu2 M2, Stp H M H' M2 ∧ RelS X.K H' σ' σu2 ∧ Sim X.K H' M2 ∧ W m' σu2 M2, fun _ _ z => z, ?_⟩
    have back : ContS X.K H3 M3 (fun σ' M' => ∃ m', m' < m ∧ W m' σ' M') (fun σ' H' => ∃ m', m' < m ∧ ∃ σu2 M2, Stp H M H' M2 ∧ RelS X.K H' σ' σu2 ∧ Sim X.K H' M2 ∧ W m' σu2 M2) := fun σ' H' σu' M' st' rs' S' ⟨m', hm, w'⟩ => ⟨m', hm, σu', M', s3.trans S st', rs', S', w'⟩
    exact q1 _ _ σ2 H3 σu2 M3 rs3 S3 hq ⟨back, c.rt.tr S s3, c.nx.tr S s3, back⟩
/-- the turns of a for -/
abbrev turnW (tg : Tg) (f : WSt) (D : EndsU) (ex : (Hm → Prop) → Hm → Prop) : U → (SU → Hm → Prop) → SU → Hm → Prop := fun x nx σ M => tgW tg x σ fun σ2 => f ⟨nx, fun u M => ex (D.rt u) M, fun σ M => ex (D.nx σ) M, nx⟩ σ2 M
def forW (fi : WI) (tg : Tg) (f : WSt) : WSt := fun D σ M => fi σ M fun items g ex M1 => forL (turnW tg f D ex) g (fun σ M => ex (D.nx σ) M) items σ M1
theorem for_core {K : Fg} {tgr : TG} {tg : Tg} {tb : TS} {f : WSt} (qg : EvG K tgr tg) (qb : EvS K tb f) {σ : L2.St} {σu : SU} {H1 : Hp} {M1 : Hm} {J : It} {items : List U} {g : Hm → Prop} {ex : (Hm → Prop) → Hm → Prop} {D : Ends} {Du : EndsU}
    (rs : RelS K H1 σ σu) (S1 : Sim K H1 M1) (ok : ItOk K H1 M1 J items g) (hg0 : g M1) (hc : forL (turnW tg f Du ex) g (fun σ M => ex (Du.nx σ) M) items σu M1)
    (hnx : ContS K H1 M1 (fun σ M => ex (Du.nx σ) M) D.nx) (hend : ∀ σ' H' σu' M', Stp H1 M1 H' M' → RelS K H' σ' σu' → Sim K H' M' → g M' → ex (Du.nx σu') M' → D.nx σ' H') (hrt : Cont K H1 M1 (fun u M => ex (Du.rt u) M) D.rt) :
    ∃ W : Nat → Nat → L2.St → Hp → Prop, (∃ m, W 0 m σ H1) ∧ ∀ i m σ H, W i m σ H →
      (J.stop i H ∧ D.nx σ H) ∨ (J.go i H ∧ ∃ N : L2.St → Hp → Prop, (∀ σ' H', N σ' H' → ∃ m', m' < m ∧ W (i + 1) m' σ' H') ∧ ∀ x H', J.yld i H x H' → tgr x σ H' fun σ2 H2 => tb { D with nx := N, ct := N, bk := D.nx } σ2 H2) := by
  let W : Nat → Nat → L2.St → Hp → Prop := fun i m σ2 H2 => m = items.length - i ∧ i ≤ items.length ∧ ∃ (σu2 : SU) (M2 : Hm), Stp H1 M1 H2 M2 ∧ RelS K H2 σ2 σu2 ∧ Sim K H2 M2 ∧ g M2 ∧ forL (turnW tg f Du ex) g (fun σ M => ex (Du.nx σ) M) (items.drop i) σu2 M2
  refine ⟨W, ⟨items.length, by simp, Nat.zero_le _, σu, M1, Stp.refl H1 M1, rs, S1, hg0, hc⟩, ?_⟩
  rintro i m σ2 H2 ⟨rfl, hi, σu2, M2, st2, rs2, S2, hg, hc⟩
  obtain ⟨go, stop⟩ := ok i H2 M2 st2 S2 hg
  by_cases hlt : i < items.length
  · right
    have hu : items[i]? = some items[i] := List.getElem?_eq_getElem hlt
    obtain ⟨jgo, jy⟩ := go _ hu
    refine ⟨jgo, fun σ' H' => ∃ m', m' < items.length - i ∧ W (i + 1) m' σ' H', fun _ _ z => z, fun x H3 hy => ?_⟩
    obtain ⟨st3, S3, rx⟩ := jy x H3 hy
    have hdrop : items.drop i = items[i] :: items.drop (i + 1) := List.drop_eq_getElem_cons hlt
    rw [hdrop] at hc
    have s3 := st2.trans S1 st3
    have hc : tgW tg items[i] σu2 fun σ4 => f ⟨fun σ' M' => g M' ∧ forL (turnW tg f Du ex) g (fun σ M => ex (Du.nx σ) M) (items.drop (i + 1)) σ' M', fun u M => ex (Du.rt u) M, fun σ M => ex (Du.nx σ) M, fun σ' M' => g M' ∧ forL (turnW tg f Du ex) g (fun σ M => ex (Du.nx σ) M) (items.drop (i + 1)) σ' M'⟩ σ4 M2 := hc
    refine qg x items[i] σ2 H3 σu2 M2 _ _ (rs2.stp S2 st3) rx hc fun σ4 σu4 rs4 hb _ => ?_
    have back : ContS K H3 M2 (fun σ' M' => g M' ∧ forL (turnW tg f Du ex) g (fun σ M => ex (Du.nx σ) M) (items.drop (i + 1)) σ' M') (fun σ' H' => ∃ m', m' < items.length - i ∧ W (i + 1) m' σ' H') := fun σ' H' σu' M' st' rs' S' ⟨g', h'⟩ =>
      ⟨items.length - (i + 1), by omega, rfl, by omega, σu', M', s3.trans S1 st', rs', S', g', h'⟩
    exact qb _ _ σ4 H3 σu4 M2 rs4 S3 hb ⟨back, hrt.tr S1 s3, hnx.tr S1 s3, back⟩
  · left
    have e : i = items.length := by omega
    subst e
    have z := hc
    rw [List.drop_length] at z
    exact ⟨stop rfl, hend _ _ _ _ st2 rs2 S2 hg z⟩
theorem ss_for {tgE iter : Expr} {body : List Stmt} {tg : Tg} {fi : WI} {f : WSt} {pos : Pos} (hx : X.xe = fun _ _ => False) (hc : X.calm = true) (hi : SI X tgE iter fi) (hg : SG X tgE tg) (hb : SSs X f body) (hs : notSet iter = true) : SS X (forW fi tg f) (.For tgE iter body [] pos) := by
  obtain ⟨ti, p, q⟩ := hi
  obtain ⟨tgr, pg, qg⟩ := hg
  obtain ⟨tb, pb, qb⟩ := hb
  refine ⟨_, ps_for (by rw [hx]; exact PassesOwn.never) hc p pg pb (no_set' hs), fun D Du σ H σu M rs S hf c => ?_⟩
  refine q σ H σu M _ _ rs S hf fun J H1 items g ex M1 st S1 ok hg0 hex hq => ?_
  subst hex
  exact for_core qg qb (rs.stp S st) S1 ok hg0 hq (c.nx.tr S st) (fun σ' H' σu' M' st' rs' S' _ hn => c.nx _ _ _ _ (st.trans S st') rs' S' hn) (c.rt.tr S st)
theorem ss_forK {tgE iter : Expr} {body : List Stmt} {i : Nat} {tg : Tg} {f : WSt} {pos : Pos} (hx : X.xe = fun _ _ => False) (hc : X.calm = true) (hi : PE X iter (tVar i)) (hg : SG X tgE tg) (hb : SSs X f body) (hs : notSet iter = true) : SS X (forW (keysI i) tg f) (.For tgE iter body [] pos) := by
  obtain ⟨tgr, pg, qg⟩ := hg
  obtain ⟨tb, pb, qb⟩ := hb
  refine ⟨_, ps_lock (ps_for (by rw [hx]; exact PassesOwn.never) hc (pi_keys hi) pg pb (no_set' hs)), fun D Du σ H σu M rs S hf c => ?_⟩
  obtain ⟨j, d, t, ks, ej, hs, hm, hq⟩ := hf
  cases ej
  obtain ⟨v, hv, rv⟩ := rs.2 i _ hs
  obtain rfl : v = .ref d := by cases rv; rfl
  obtain ⟨u, hd, mu, lk⟩ := lock_stp S hm
  refine ⟨d, u, hd, mu, fun od => ?_⟩
  obtain ⟨st, S1, hu⟩ := lk od
  have hu1 := hu_stp S st hu
  refine keys_run hv S1 upd_same um_same hu1 fun J ok => ?_
  have un : ∀ {H2 : Hp} {M2 : Hm}, Stp (upd H d (.frz od u)) (um M d (.dct true t ks)) H2 M2 → Sim X.K H2 M2 → M2 d = some (.dct true t ks) → _ := fun {H2 M2} st2 S2 hm2 => unlock_stp S hm upd_same um_same st S1 st2 S2 hm2 (hu_stp S1 st2 hu1)
  have nxK : ContS X.K (upd H d (.frz od u)) (um M d (.dct true t ks)) (fun σ M => M d = some (.dct true t ks) ∧ Du.nx σ (um M d (.dct false t ks))) (fun σ' H' => H' d = some (.frz od u) ∧ D.nx σ' (upd H' d u)) := fun σ' H' σu' M' st' rs' S' ⟨hm', hn⟩ => by
    obtain ⟨e2, st3, S3, f1, f2⟩ := un st' S' hm'
    exact ⟨e2, c.nx _ _ _ _ st3 ⟨rs'.1, fun i u e => let ⟨v, a, b⟩ := rs'.2 i u e; ⟨v, a, f1 _ _ b⟩⟩ S3 hn⟩
  refine for_core (D := ⟨fun σ' H' => H' d = some (.frz od u) ∧ D.nx σ' (upd H' d u), fun v H' => H' d = some (.frz od u) ∧ D.rt v (upd H' d u), fun σ' H' => H' d = some (.frz od u) ∧ D.bk σ' (upd H' d u), fun σ' H' => H' d = some (.frz od u) ∧ D.ct σ' (upd H' d u)⟩) (Du := Du)
    qg qb (rs.stp S st) S1 ok um_same hq nxK (fun σ' H' σu' M' st' rs' S' _ hn => nxK _ _ _ _ st' rs' S' hn) fun v H' x M' st' S' r' ⟨hm', hr⟩ => ?_
  obtain ⟨e2, st3, S3, f1, f2⟩ := un st' S' hm'
  exact ⟨e2, c.rt _ _ _ _ st3 S3 (f1 _ _ r') hr⟩
end
end Pl

set_option maxHeartbeats 4000000
/-! the check of a text against the small syntax, and what it is worth -/
namespace Pl
open PySem L2
structure Ck where
  sc : Scope
  N : List Str
  T : List Df
  cs : List Cd := []
  ks : List (Str × Int) := []
  ss : List (Str × Str) := []
def visB (sc : Scope) (x : Str) : Bool := match sc.names.lookup x with
  | some .local => true
  | some .cell => true
  | some .free => true
  | _ => false
def locB (sc : Scope) (x : Str) : Bool := match sc.names.lookup x with
  | some .local => true
  | some .cell => true
  | _ => false
def ownB (sc : Scope) (x : Str) : Bool := match sc.names.lookup x with
  | some .local => true
  | _ => false
def glB (sc : Scope) (x : Str) : Bool := match sc.names.lookup x with
  | some .globalImplicit => true
  | _ => false
def okN (x : Str) : Bool := !(x == ("__debug__" : Str)) && !(x == ("__classdict__" : Str)) && !(x == ("__name__" : Str))
def varB (c : Ck) (i : Nat) (x : Str) : Bool := decide (c.N[i]? = some x) && visB c.sc x && okN x
def bfnN : Bfn → Str
  | .len => "len" | .list => "list" | .tuple => "tuple" | .int => "int" | .abs => "abs" | .max => "max" | .min => "min" | .sorted => "sorted" | .sum => "sum" | .all => "all" | .any => "any" | .tupd => "tuple" | _ => ""
def bltNames : List Str := ["len", "list", "tuple", "int", "abs", "max", "min", "range", "isinstance", "str", "bool", "sorted", "enumerate", "sum", "all", "any", "zip", "set", "dict", "reversed"]
def isKeysE : E → Bool
  | .iKeys _ => true
  | _ => false
def isEn : E → Bool
  | .iEnum _ => true
  | _ => false
def isTupE : Expr → Bool
  | .Tuple _ _ _ => true
  | _ => false
/-- enumerate wants a target of several names -/
def enOk (it : E) (g : Expr) : Bool := !isEn it || isTupE g
def ckTg (tg : Tg) (N : List Str) (ok : Str → Bool) : Expr → Bool
  | .Name x _ => (match tg with | .one i => decide (N[i]? = some x) && ok x | _ => false)
  | .Tuple es _ _ => (match tg with | .many is => namesB N ok is es | _ => false)
  | _ => false
def gFn (c : Ck) (f n : Nat) (x : Str) : Bool := (match c.T[f]? with | some d => decide (d.cls = none) && (decide (d.name = x) && decide (d.ps.length = n)) | none => false) && (glB c.sc x && okN x)
def gBl (c : Ck) (n x : Str) : Bool := decide (x = n) && (glB c.sc x && okN x)
def hasMeth (c : Ck) (cn m : Str) (f : Nat) : Bool := c.cs.any fun cd => decide (cd.name = cn) && cd.mets.any fun p => decide (p = (m, f))
def hasProp (c : Ck) (cn m : Str) (f : Nat) : Bool := c.cs.any fun cd => decide (cd.name = cn) && cd.prps.any fun p => decide (p = (m, f))
def hasInit (c : Ck) (cn : Str) (f : Nat) : Bool := c.cs.any fun cd => decide (cd.name = cn) && decide (cd.init = some f)
def hasFld (c : Ck) (cn f : Str) : Bool := c.cs.any fun cd => decide (cd.name = cn) && cd.flds.any fun g => decide (g = f)

mutual
def ckE : E → Ck → Expr → Bool
  | .var i, c, e => (match e with | .Name x _ => varB c i x | _ => false)
  | .int i, _, e => (match e with | .Constant (.int j) _ _ => decide (i = j) | _ => false)
  | .str i, _, e => (match e with | .Constant (.str j) _ _ => decide (i = j) | _ => false)
  | .bl i, _, e => (match e with | .Constant (.bool j) _ _ => decide (i = j) | _ => false)
  | .non, _, e => (match e with | .Constant .none _ _ => true | _ => false)
  | .nil, _, _ => false
  | .cons _ _, _, _ => false
  | .tup es, c, e => (match e with | .Tuple xs _ _ => ckL es c xs | _ => false)
  | .dtup es, c, e => (match e with | .Tuple xs _ _ => ckL es c xs | _ => false)
  | .lst es, c, e => (match e with | .List xs _ => ckL es c xs | _ => false)
  | .dnew _, _, e => (match e with | .Dict [] [] _ => true | _ => false)
  | .bin op a b, c, e => (match e with | .BinOp x o y _ => decide (o = bopOf op) && (ckE a c x && ckE b c y) | _ => false)
  | .neg a, c, e => (match e with | .UnaryOp .USub x _ => ckE a c x | _ => false)
  | .cmp op a b, c, e => (match e with | .Compare x [o] [y] _ => decide (o = copOf op) && (!behindInMarks o y && (ckE a c x && ckE b c y)) | _ => false)
  | .chain o1 o2 a b d, c, e => (match e with | .Compare x [p, q] [y, z] _ => decide (p = copOf o1) && (decide (q = copOf o2) && (!lastMarks [p, q] [y, z] && (ckE a c x && (ckE b c y && ckE d c z)))) | _ => false)
  | .isN a, c, e => (match e with | .Compare x [.Is] [.Constant .none _ _] _ => ckE a c x | _ => false)
  | .notN a, c, e => (match e with | .Compare x [.IsNot] [.Constant .none _ _] _ => ckE a c x | _ => false)
  | .isB neg b a, c, e => (match e with | .Compare x [o] [.Constant (.bool b') _ _] _ => decide (o = if neg then CmpOp.IsNot else CmpOp.Is) && (decide (b' = b) && ckE a c x) | _ => false)
  | .ands es, c, e => (match e with | .BoolOp .And xs _ => !xs.isEmpty && ckL es c xs | _ => false)
  | .ors es, c, e => (match e with | .BoolOp .Or xs _ => !xs.isEmpty && ckL es c xs | _ => false)
  | .not a, c, e => (match e with | .UnaryOp .Not x _ => ckE a c x | _ => false)
  | .ite d a b, c, e => (match e with | .IfExp x y z _ => ckE d c x && (ckE a c y && ckE b c z) | _ => false)
  | .slice a lo hi, c, e => (match e with
    | .Subscript x (.Slice l h none _) _ => ckE a c x && ((match l with | none => isNil lo | some y => !isNil lo && ckE lo c y) && (match h with | none => isNil hi | some y => !isNil hi && ckE hi c y))
    | _ => false)
  | .dget o k d, c, e => (match e with | .Call (.Attribute y a apos) [u, v] [] pos => decide (a = "get") && ((apos.endLine == pos.line) && (notSup y && (!isStar u && (!isStar v && (ckE o c y && (ckE k c u && ckE d c v)))))) | _ => false)
  | .ix a i, c, e => (match e with | .Subscript x y _ => notSlice y && (ckE a c x && ckE i c y) | _ => false)
  | .call f es, c, e => (match e with | .Call (.Name x _) xs [] _ => gFn c f xs.length x && ckL es c xs | _ => false)
  | .blt f es, c, e => (match e with | .Call (.Name x _) xs [] _ => gBl c (bfnN f) x && ((bfnV f).isSome && (!xs.isEmpty && ckL es c xs)) | _ => false)
  | .mth m o es, c, e => (match e with
    | .Call (.Attribute y a apos) xs [] pos => (match mfnT m with | some t => decide (a = t.2.1) | none => false) && ((apos.endLine == pos.line) && (notSup y && (decide (xs.length < 10) && (ckE o c y && ckL es c xs))))
    | _ => false)
  | .isinst a t, c, e => (match e with | .Call (.Name x _) [y, .Name z _] [] _ => gBl c "isinstance" x && (gBl c (Str.ofString t) z && (tyOk t && (!isStar y && ckE a c y))) | _ => false)
  | .comp own tg it cnd elt, c, e => (match e with
    | .ListComp x [⟨g, itx, ifs, is_⟩] scope _ => decide (is_ = 0) && ((enOk it g && ckI it c itx) && (notSet itx && (blkC c.N c.sc scope own && (decide (own.map (·.2) = tg.slots) && (ckTg tg c.N (ownB (relS scope c.sc)) g &&
        ((match ifs with | [] => isNil cnd | [i] => !isNil cnd && ckE cnd { c with sc := relS scope c.sc } i | _ => false) && ckE elt { c with sc := relS scope c.sc } x))))))
    | _ => false)
  | .fld f o, c, e => (match e with | .Attribute y a _ => decide (a = f) && (notSup y && ckE o c y) | _ => false)
  | .meth cn m f o es, c, e => (match e with
    | .Call (.Attribute y a apos) xs [] pos => decide (a = m) && (hasMeth c cn m f && ((c.T[f]?).isSome && ((apos.endLine == pos.line) && (notSup y && (decide (xs.length < 10) && (ckE o c y && ckL es c xs))))))
    | _ => false)
  | .make cn f es, c, e => (match e with | .Call (.Name x _) xs [] _ => decide (x = cn) && (hasInit c cn f && ((c.T[f]?).isSome && ((glB c.sc x && okN x) && ckL es c xs))) | _ => false)
  | .prop cn m f o, c, e => (match e with | .Attribute y a _ => decide (a = m) && (hasProp c cn m f && ((c.T[f]?).isSome && (notSup y && ckE o c y))) | _ => false)
  | .setdef o k d, c, e => (match e with | .Call (.Attribute y a apos) [u, v] [] pos => decide (a = "setdefault") && ((apos.endLine == pos.line) && (notSup y && (!isStar u && (!isStar v && (ckE o c y && (ckE k c u && ckE d c v)))))) | _ => false)
  | .lrng t a b, c, e => (match e with
    | .Call (.Name x _) [.Call (.Name y _) [u] [] _] [] _ => gBl c (if t then "tuple" else "list") x && (gBl c "range" y && (!isStar u && (isNil a && ckE b c u)))
    | .Call (.Name x _) [.Call (.Name y _) [u, v] [] _] [] _ => gBl c (if t then "tuple" else "list") x && (gBl c "range" y && (!isStar u && (!isStar v && (!isNil a && (ckE a c u && ckE b c v)))))
    | _ => false)
  | .tidx o a, c, e => (match e with | .Call (.Attribute y m apos) [u] [] pos => decide (m = "index") && ((apos.endLine == pos.line) && (notSup y && (!isStar u && (ckE o c y && ckE a c u)))) | _ => false)
  | .gint x i, c, e => (match e with | .Name y _ => decide (y = x) && ((glB c.sc x && okN x) && c.ks.any fun p => decide (p = (x, i))) | _ => false)
  | .gstr x i, c, e => (match e with | .Name y _ => decide (y = x) && ((glB c.sc x && okN x) && c.ss.any fun p => decide (p = (x, i))) | _ => false)
  | .iSeq _, _, _ => false
  | .iRange _, _, _ => false
  | .iRange2 _ _, _, _ => false
  | .iEnum _, _, _ => false
  | .iRev _, _, _ => false
  | .iKeys _, _, _ => false
def ckL : E → Ck → List Expr → Bool
  | .nil, _, xs => xs.isEmpty
  | .cons a b, c, xs => (match xs with | x :: xs => !isStar x && (ckE a c x && ckL b c xs) | [] => false)
  | _, _, _ => false
def ckI : E → Ck → Expr → Bool
  | .iSeq a, c, x => ckE a c x
  | .iRange a, c, e => (match e with | .Call (.Name x _) [y] [] _ => gBl c "range" x && (!isStar y && ckE a c y) | _ => false)
  | .iRange2 a b, c, e => (match e with | .Call (.Name x _) [y, z] [] _ => gBl c "range" x && (!isStar y && (!isStar z && (ckE a c y && ckE b c z))) | _ => false)
  | .iRev a, c, e => (match e with | .Call (.Name x _) [y] [] _ => gBl c "reversed" x && (!isStar y && ckE a c y) | _ => false)
  | .iEnum a, c, e => (match e with | .Call (.Name x _) [y] [] _ => gBl c "enumerate" x && (!isStar y && ckE a c y) | _ => false)
  | .iKeys a, c, e => (match e with | .Name x _ => (match a with | .var i => varB c i x | _ => false) | _ => false)
  | _, _, _ => false
end

/-- what is known of a class -/
structure ClsK (K : Fg) (mg : Str → Option Value) (fa : Nat → Addr) (cd : Cd) : Prop where
  cls : Cls K (cad K cd.name)
  flds : ∀ f ∈ cd.flds, NoAttr K (cad K cd.name) f
  mets : ∀ p ∈ cd.mets, Meth K (cad K cd.name) p.1 (fa p.2)
  prps : ∀ p ∈ cd.prps, ∃ pa, PropOf K (cad K cd.name) p.1 pa (fa p.2)
  init : ∀ i, cd.init = some i → Mk K (cad K cd.name) (fa i) ∧ mg cd.name = some (.ref (cad K cd.name))
/-- what stands around -/
structure Gd (X : Cx) (c : Ck) (k : Nat) (fa : Nat → Addr) (fd : Nat → FuncData) (C : CE) : Prop where
  sc : X.env.scope = c.sc
  N : X.N = c.N
  nd : c.N.Nodup
  calm : X.calm = true
  xe : X.xe = fun _ _ => False
  room : Room (k + 1) X.A
  blt : ∀ x ∈ bltNames, X.mg x = none
  fns : ∀ i d, c.T[i]? = some d → (d.cls = none → X.mg d.name = some (.ref (fa i))) ∧ PySem.W.keepIn X.K (.ref (fa i)) = true ∧ Binds X.K (fd i) d.ps [] ∧ FnOk X.prog X.w X.K X.mg X.base CX0 k (fa i) (fd i) d.ps (spOf X.K (C i))
  clss : ∀ cd ∈ c.cs, ClsK X.K X.mg fa cd
  kints : ∀ p ∈ c.ks, ∃ t, X.mg p.1 = some (.int p.2 t)
  kstrs : ∀ p ∈ c.ss, ∃ t, X.mg p.1 = some (.str p.2 t)
section
variable {X : Cx} {c : Ck} {k : Nat} {fa : Nat → Addr} {fd : Nat → FuncData} {C : CE}
theorem Gd.blk (G : Gd X c k fa fd C) (scope : Scope) (s : Shared) (H : Hp) (A : Addr) (cl : List (Str × Addr)) (fp : List Addr) : Gd (Blk X scope s H A cl fp) { c with sc := relS scope c.sc } k fa fd C :=
  ⟨by rw [← G.sc]; rfl, G.N, G.nd, G.calm, rfl, G.room, G.blt, G.fns, G.clss, G.kints, G.kstrs⟩
theorem Gd.room0 (G : Gd X c k fa fd C) : Room k X.A := G.room.mono (Nat.le_succ k)
theorem Gd.u65 (G : Gd X c k fa fd C) : X.A.units + 65 < cLine := by
  have h := G.room.un
  omega
theorem Gd.u66 (G : Gd X c k fa fd C) : X.A.units + 66 < cLine := by
  have h := G.room.un
  omega
theorem Gd.u1 (G : Gd X c k fa fd C) : X.A.units + 1 < cLine := by
  have h := G.room.un
  omega
theorem vis_of (G : Gd X c k fa fd C) {x : Str} (h : visB c.sc x = true) : Vis X.env.scope x := by
  rw [G.sc]
  unfold visB at h
  unfold Vis
  split at h
  · exact .inl (by assumption)
  · exact .inr (.inl (by assumption))
  · exact .inr (.inr (by assumption))
  · cases h
theorem loc_of (G : Gd X c k fa fd C) {x : Str} (h : locB c.sc x = true) : L2.Loc X.env.scope x := by
  rw [G.sc]
  unfold locB at h
  unfold L2.Loc
  split at h
  · exact .inl (by assumption)
  · exact .inr (by assumption)
  · cases h
theorem own_of (G : Gd X c k fa fd C) {x : Str} (h : ownB c.sc x = true) : X.env.scope.names.lookup x = some .local := by
  rw [G.sc]
  unfold ownB at h
  split at h
  · assumption
  · cases h
theorem gl_of (G : Gd X c k fa fd C) {x : Str} (h : glB c.sc x = true) : Gl X x := by
  show X.env.scope.names.lookup x = some .globalImplicit
  rw [G.sc]
  unfold glB at h
  split at h
  · assumption
  · cases h
theorem okN_of {x : Str} (h : okN x = true) : (x == ("__debug__" : Str)) = false ∧ (x == ("__classdict__" : Str)) = false ∧ x ≠ "__name__" := by
  unfold okN at h
  simp only [Bool.and_eq_true, Bool.not_eq_true'] at h
  exact ⟨h.1.1, h.1.2, fun e => by rw [e] at h; simp at h⟩
theorem pe_varB (G : Gd X c k fa fd C) {i : Nat} {x : Str} {pos : Pos} (h : varB c i x = true) : PE X (.Name x pos) (tVar i) := by
  unfold varB at h
  simp only [Bool.and_eq_true, decide_eq_true_eq] at h
  obtain ⟨a, b, _⟩ := okN_of h.2
  exact pe_var (by rw [G.N]; exact h.1.1) (vis_of G h.1.2) a b
theorem boot_of {f : Bfn} {v : Value} (h : bfnV f = some v) : bootBuiltins (bfnN f) = some v ∧ bfnN f ∈ bltNames := by
  cases f <;> first | (cases h; done) | (cases h; exact ⟨by decide +kernel, by decide +kernel⟩)
/-- and, or over a row -/
def AO (X : Cx) (W : Wp) (es : List Expr) : Prop := ∀ pos, (∃ t, PW X (.BoolOp .And es pos) t ∧ EvT X.K t W.ta) ∧ (∃ t, PW X (.BoolOp .Or es pos) t ∧ EvT X.K t W.to) ∧ SE1 X W.va (.BoolOp .And es pos) ∧ SE1 X W.vo (.BoolOp .Or es pos)
theorem ao_one {W : Wp} {x : Expr} (h : SE X W x) : AO X ⟨fE, fT, fun _ _ _ => False, W.t, W.t, W.e, W.e, fI⟩ [x] := fun pos => by
  obtain ⟨⟨t1, p1, q1⟩, ⟨t2, p2, q2⟩⟩ := h
  exact ⟨⟨_, pw_and1 p2, q2⟩, ⟨_, pw_or1 p2, q2⟩, ⟨_, pe_one p1, q1⟩, ⟨_, pe_one p1, q1⟩⟩
theorem ao_cons {W V : Wp} {x y : Expr} {es : List Expr} (h : SE X W x) (hr : AO X V (y :: es)) :
    AO X ⟨fE, fT, fun _ _ _ => False, fun σ M Q => W.t σ M fun c M1 => if c = true then V.ta σ M1 Q else Q false M1, fun σ M Q => W.t σ M fun c M1 => if c = true then Q true M1 else V.to σ M1 Q,
      fun σ M Q => bW W.e σ M fun c M1 => if c = true then V.va σ M1 Q else Q (.bl false) M1, fun σ M Q => bW W.e σ M fun c M1 => if c = true then Q (.bl true) M1 else V.vo σ M1 Q, fI⟩ (x :: y :: es) := fun pos => by
  obtain ⟨⟨t1, p1, q1⟩, ⟨t2, p2, q2⟩⟩ := h
  obtain ⟨⟨ta, pa, qa⟩, ⟨tb, pb, qb⟩, ⟨tc, pc, qc⟩, ⟨td, pd, qd⟩⟩ := hr pos
  refine ⟨⟨_, pw_and p2 pa, fun σ H σu M Qu Q rs S hf c => ?_⟩, ⟨_, pw_or p2 pb, fun σ H σu M Qu Q rs S hf c => ?_⟩, ⟨_, pe_and p1 pc, fun σ H σu M Qu Q rs S hf c => ?_⟩, ⟨_, pe_or p1 pd, fun σ H σu M Qu Q rs S hf c => ?_⟩⟩
  · refine q2 σ H σu M _ _ rs S hf fun b H1 M1 st S1 hq => ?_
    cases b with
    | true => exact qa σ H1 σu M1 _ _ (rs.stp S st) S1 hq (c.tr S st)
    | false => exact c _ _ _ st S1 hq
  · refine q2 σ H σu M _ _ rs S hf fun b H1 M1 st S1 hq => ?_
    cases b with
    | true => exact c _ _ _ st S1 hq
    | false => exact qb σ H1 σu M1 _ _ (rs.stp S st) S1 hq (c.tr S st)
  · refine q1 σ H σu M _ _ rs S hf fun v H1 u M1 st S1 r hq => ?_
    obtain ⟨b, rfl, hq⟩ := hq
    cases r
    refine ⟨b, rfl, ?_⟩
    cases b with
    | true => exact qc σ H1 σu M1 _ _ (rs.stp S st) S1 hq (c.tr S st)
    | false => exact c _ _ _ _ st S1 (.bl _) hq
  · refine q1 σ H σu M _ _ rs S hf fun v H1 u M1 st S1 r hq => ?_
    obtain ⟨b, rfl, hq⟩ := hq
    cases r
    refine ⟨b, rfl, ?_⟩
    cases b with
    | true => exact c _ _ _ _ st S1 (.bl _) hq
    | false => exact qd σ H1 σu M1 _ _ (rs.stp S st) S1 hq (c.tr S st)
theorem sg_of (G : Gd X c k fa fd C) {tg : Tg} {e : Expr} (h : ckTg tg c.N (ownB c.sc) e = true) : SG X e tg := by
  unfold ckTg at h
  split at h
  · split at h
    · rw [Bool.and_eq_true] at h
      have o := own_of G h.2
      exact sg_one (by rw [G.N]; exact G.nd) (by rw [G.N]; exact of_decide_eq_true h.1) (.inl o) (.inr o)
    · cases h
  · split at h
    · exact sg_many G.calm (by rw [G.N]; exact G.nd) (ok := ownB c.sc) (fun x hx => ⟨.inl (own_of G hx), .inr (own_of G hx)⟩) (by rw [G.N]; exact h)
    · cases h
  · cases h
theorem sg_ofF (G : Gd X c k fa fd C) (hf : ∀ x, X.fn x = true) {tg : Tg} {e : Expr} (h : ckTg tg c.N (locB c.sc) e = true) : SG X e tg := by
  unfold ckTg at h
  split at h
  · split at h
    · rw [Bool.and_eq_true] at h
      exact sg_one (by rw [G.N]; exact G.nd) (by rw [G.N]; exact of_decide_eq_true h.1) (loc_of G h.2) (.inl (hf _))
    · cases h
  · split at h
    · exact sg_many G.calm (by rw [G.N]; exact G.nd) (ok := locB c.sc) (fun x hx => ⟨loc_of G hx, .inl (hf _)⟩) (by rw [G.N]; exact h)
    · cases h
  · cases h
end
def SndE (e : E) : Prop := ∀ (X : Cx) (c : Ck) (k : Nat) (fa : Nat → Addr) (fd : Nat → FuncData) (C : CE), Gd X c k fa fd C → ∀ x, ckE e c x = true → SE X (w C e) x
def SndL (e : E) : Prop := ∀ (X : Cx) (c : Ck) (k : Nat) (fa : Nat → Addr) (fd : Nat → FuncData) (C : CE), Gd X c k fa fd C → ∀ xs, ckL e c xs = true → SA X (w C e).l xs ∧ xs.all (fun e => !isStar e) = true ∧ (xs ≠ [] → AO X (w C e) xs) ∧ (xs = [] → e = .nil)
def SndI (e : E) : Prop := ∀ (X : Cx) (c : Ck) (k : Nat) (fa : Nat → Addr) (fd : Nat → FuncData) (C : CE), Gd X c k fa fd C → ∀ x tg, ckI e c x = true → enOk e tg = true → (SI X tg x (w C e).i) ∨ ∃ i, e = .iKeys (.var i) ∧ PE X x (tVar i)
theorem noE {e : E} (h : ∀ c x, ckE e c x = false) : SndE e := fun X c k fa fd C G x q => by rw [h c x] at q; cases q
theorem noL {e : E} (h : ∀ c x, ckL e c x = false) : SndL e := fun X c k fa fd C G x q => by rw [h c x] at q; cases q
theorem noI {e : E} (h : ∀ c x, ckI e c x = false) : SndI e := fun X c k fa fd C G x tg q _ => by rw [h c x] at q; cases q
/-- a comprehension's parts -/
theorem compOk_of {X : Cx} {c : Ck} {k : Nat} {fa : Nat → Addr} {fd : Nat → FuncData} {C : CE} (G : Gd X c k fa fd C) {cnd elt : E} (sc : SndE cnd) (se : SndE elt) {tg : Tg} {own : List (Str × Nat)} {scope : Scope} {g e : Expr} {ifs : List Expr}
    (hb : blkC c.N c.sc scope own = true) (ho : own.map (·.2) = tg.slots) (ht : ckTg tg c.N (ownB (relS scope c.sc)) g = true)
    (hi : (match ifs with | [] => isNil cnd | [i] => !isNil cnd && ckE cnd { c with sc := relS scope c.sc } i | _ => false) = true) (he : ckE elt { c with sc := relS scope c.sc } e = true) :
    CompOk X g e ifs scope own tg (if isNil cnd = true then fun _ M Q => Q true M else (w C cnd).t) (w C elt).e := by
  refine ⟨G.calm, by rw [G.N]; exact G.nd, ?_, ho, fun s H A cl fp => sg_of (G.blk scope s H A cl fp) ht, ?_, fun s H A cl fp => (se _ _ k fa fd C (G.blk scope s H A cl fp) e he).1⟩
  · rw [G.N, G.sc]
    exact blkOk_by hb
  · split at hi
    · left
      exact ⟨rfl, by rw [if_pos hi]⟩
    · right
      rw [Bool.and_eq_true] at hi
      refine ⟨_, rfl, fun s H A cl fp => ?_⟩
      rw [if_neg (by simpa using hi.1)]
      exact (sc _ _ k fa fd C (G.blk scope s H A cl fp) _ hi.2).2
    · cases hi
theorem gBl_of {X : Cx} {c : Ck} {k : Nat} {fa : Nat → Addr} {fd : Nat → FuncData} {C : CE} (G : Gd X c k fa fd C) {n x : Str} (h : gBl c n x = true) (hn : n ∈ bltNames) : x = n ∧ Gl X x ∧ X.mg x = none ∧ (x == ("__debug__" : Str)) = false ∧ x ≠ "__name__" := by
  unfold gBl at h
  simp only [Bool.and_eq_true, decide_eq_true_eq] at h
  obtain ⟨e, h1, h2⟩ := h
  obtain ⟨a, _, b⟩ := okN_of h2
  exact ⟨e, gl_of G h1, by rw [e]; exact G.blt n hn, a, b⟩
theorem sound (e : E) : SndE e ∧ SndL e ∧ SndI e := by
  induction e with
  | var i =>
    refine ⟨fun X c k fa fd C G x h => ?_, noL fun _ _ => rfl, noI fun _ _ => rfl⟩
    unfold ckE at h
    split at h <;> first | (cases h; done) | skip
    refine .ofE rfl ⟨_, pe_varB G h, ?_⟩
    intro σ H σu M Qu Q rs S ⟨u, e, q⟩ c
    obtain ⟨v, e1, r⟩ := rs.2 i u e
    exact ⟨v, e1, c.at_ S r q⟩
  | int i =>
    refine ⟨fun X c k fa fd C G x h => ?_, noL fun _ _ => rfl, noI fun _ _ => rfl⟩
    unfold ckE at h
    split at h <;> first | (cases h; done) | skip
    obtain rfl : i = _ := of_decide_eq_true h
    exact .ofE rfl se_int
  | str i =>
    refine ⟨fun X c k fa fd C G x h => ?_, noL fun _ _ => rfl, noI fun _ _ => rfl⟩
    unfold ckE at h
    split at h <;> first | (cases h; done) | skip
    obtain rfl : i = _ := of_decide_eq_true h
    exact .ofE rfl se_str
  | bl i =>
    refine ⟨fun X c k fa fd C G x h => ?_, noL fun _ _ => rfl, noI fun _ _ => rfl⟩
    unfold ckE at h
    split at h <;> first | (cases h; done) | skip
    obtain rfl : i = _ := of_decide_eq_true h
    exact .ofE rfl se_bl
  | non =>
    refine ⟨fun X c k fa fd C G x h => ?_, noL fun _ _ => rfl, noI fun _ _ => rfl⟩
    unfold ckE at h
    split at h <;> first | (cases h; done) | skip
    exact .ofE rfl se_non
  | nil =>
    refine ⟨noE fun _ _ => rfl, fun X c k fa fd C G xs h => ?_, noI fun _ _ => rfl⟩
    cases xs with
    | nil => exact ⟨sa_nil, rfl, fun z => absurd rfl z, fun _ => rfl⟩
    | cons _ _ => cases h
  | cons a b iha ihb =>
    refine ⟨noE fun _ _ => rfl, fun X c k fa fd C G xs h => ?_, noI fun _ _ => rfl⟩
    cases xs with
    | nil => cases h
    | cons x xs =>
      have h : (!isStar x && (ckE a c x && ckL b c xs)) = true := h
      rw [Bool.and_eq_true, Bool.and_eq_true] at h
      obtain ⟨h1, h2, h3⟩ := h
      have h1 : isStar x = false := by simpa using h1
      have sa := iha.1 X c k fa fd C G x h2
      obtain ⟨sb, hs, ao, hn⟩ := ihb.2.1 X c k fa fd C G xs h3
      refine ⟨sa_cons h1 sa.1 sb, by rw [List.all_cons, h1, hs]; rfl, fun _ => ?_, fun z => by cases z⟩
      cases xs with
      | nil =>
        have e := hn rfl
        subst e
        exact ao_one sa
      | cons y ys =>
        have hb : isNil b = false := by
          cases b <;> first | rfl | (cases h3; done)
        have hn : ¬ isNil b = true := by rw [hb]; decide
        have e1 : (w C (.cons a b)).ta = fun σ M Q => (w C a).t σ M fun c M1 => if c = true then (w C b).ta σ M1 Q else Q false M1 := if_neg hn
        have e2 : (w C (.cons a b)).to = fun σ M Q => (w C a).t σ M fun c M1 => if c = true then Q true M1 else (w C b).to σ M1 Q := if_neg hn
        have e3 : (w C (.cons a b)).va = fun σ M Q => bW (w C a).e σ M fun c M1 => if c = true then (w C b).va σ M1 Q else Q (.bl false) M1 := if_neg hn
        have e4 : (w C (.cons a b)).vo = fun σ M Q => bW (w C a).e σ M fun c M1 => if c = true then Q (.bl true) M1 else (w C b).vo σ M1 Q := if_neg hn
        have q := ao_cons sa (ao (by simp))
        intro pos
        rw [e1, e2, e3, e4]
        exact q pos
  | tup es ih =>
    refine ⟨fun X c k fa fd C G x h => ?_, noL fun _ _ => rfl, noI fun _ _ => rfl⟩
    unfold ckE at h
    split at h <;> first | (cases h; done) | skip
    exact .ofE rfl (se_tup (ih.2.1 X c k fa fd C G _ h).1)
  | dtup es ih =>
    refine ⟨fun X c k fa fd C G x h => ?_, noL fun _ _ => rfl, noI fun _ _ => rfl⟩
    unfold ckE at h
    split at h <;> first | (cases h; done) | skip
    exact .ofE rfl (se_dtup (ih.2.1 X c k fa fd C G _ h).1)
  | lst es ih =>
    refine ⟨fun X c k fa fd C G x h => ?_, noL fun _ _ => rfl, noI fun _ _ => rfl⟩
    unfold ckE at h
    split at h <;> first | (cases h; done) | skip
    exact .ofE rfl (se_lst (ih.2.1 X c k fa fd C G _ h).1)
  | dnew t =>
    refine ⟨fun X c k fa fd C G x h => ?_, noL fun _ _ => rfl, noI fun _ _ => rfl⟩
    unfold ckE at h
    split at h <;> first | (cases h; done) | skip
    exact .ofE rfl se_dnew
  | bin op a b iha ihb =>
    refine ⟨fun X c k fa fd C G x h => ?_, noL fun _ _ => rfl, noI fun _ _ => rfl⟩
    unfold ckE at h
    split at h <;> first | (cases h; done) | skip
    simp only [Bool.and_eq_true, decide_eq_true_eq] at h
    obtain ⟨rfl, h1, h2⟩ := h
    exact .ofE rfl (se_bin (iha.1 X c k fa fd C G _ h1).1 (ihb.1 X c k fa fd C G _ h2).1)
  | neg a ih =>
    refine ⟨fun X c k fa fd C G x h => ?_, noL fun _ _ => rfl, noI fun _ _ => rfl⟩
    unfold ckE at h
    split at h <;> first | (cases h; done) | skip
    exact .ofE rfl (se_neg (ih.1 X c k fa fd C G _ h).1)
  | cmp op a b iha ihb =>
    refine ⟨fun X c k fa fd C G x h => ?_, noL fun _ _ => rfl, noI fun _ _ => rfl⟩
    unfold ckE at h
    split at h <;> first | (cases h; done) | skip
    simp only [Bool.and_eq_true, decide_eq_true_eq, Bool.not_eq_true'] at h
    obtain ⟨rfl, h0, h1, h2⟩ := h
    exact se_cmp G.u65 (iha.1 X c k fa fd C G _ h1).1 (ihb.1 X c k fa fd C G _ h2).1 h0
  | chain o1 o2 a b d iha ihb ihd =>
    refine ⟨fun X c k fa fd C G x h => ?_, noL fun _ _ => rfl, noI fun _ _ => rfl⟩
    unfold ckE at h
    split at h <;> first | (cases h; done) | skip
    simp only [Bool.and_eq_true, decide_eq_true_eq, Bool.not_eq_true'] at h
    obtain ⟨rfl, rfl, h0, h1, h2, h3⟩ := h
    exact se_chain G.u65 (iha.1 X c k fa fd C G _ h1).1 (ihb.1 X c k fa fd C G _ h2).1 (ihd.1 X c k fa fd C G _ h3).1 h0
  | isN a ih =>
    refine ⟨fun X c k fa fd C G x h => ?_, noL fun _ _ => rfl, noI fun _ _ => rfl⟩
    unfold ckE at h
    split at h <;> first | (cases h; done) | skip
    exact se_isN (ih.1 X c k fa fd C G _ h).1
  | notN a ih =>
    refine ⟨fun X c k fa fd C G x h => ?_, noL fun _ _ => rfl, noI fun _ _ => rfl⟩
    unfold ckE at h
    split at h <;> first | (cases h; done) | skip
    exact se_notN (ih.1 X c k fa fd C G _ h).1
  | isB neg b a ih =>
    refine ⟨fun X c k fa fd C G x h => ?_, noL fun _ _ => rfl, noI fun _ _ => rfl⟩
    unfold ckE at h
    split at h <;> first | (cases h; done) | skip
    simp only [Bool.and_eq_true, decide_eq_true_eq] at h
    obtain ⟨rfl, rfl, h1⟩ := h
    exact se_isB (ih.1 X c k fa fd C G _ h1).1
  | ands es ih =>
    refine ⟨fun X c k fa fd C G x h => ?_, noL fun _ _ => rfl, noI fun _ _ => rfl⟩
    unfold ckE at h
    split at h <;> first | (cases h; done) | skip
    simp only [Bool.and_eq_true, Bool.not_eq_true'] at h
    obtain ⟨h0, h1⟩ := h
    obtain ⟨⟨t, p, q⟩, _, v, _⟩ := (ih.2.1 X c k fa fd C G _ h1).2.2.1 (by intro z; rw [z] at h0; cases h0) _
    exact ⟨v, ⟨_, p.pt, q⟩⟩
  | ors es ih =>
    refine ⟨fun X c k fa fd C G x h => ?_, noL fun _ _ => rfl, noI fun _ _ => rfl⟩
    unfold ckE at h
    split at h <;> first | (cases h; done) | skip
    simp only [Bool.and_eq_true, Bool.not_eq_true'] at h
    obtain ⟨h0, h1⟩ := h
    obtain ⟨_, ⟨t, p, q⟩, _, v⟩ := (ih.2.1 X c k fa fd C G _ h1).2.2.1 (by intro z; rw [z] at h0; cases h0) _
    exact ⟨v, ⟨_, p.pt, q⟩⟩
  | not a ih =>
    refine ⟨fun X c k fa fd C G x h => ?_, noL fun _ _ => rfl, noI fun _ _ => rfl⟩
    unfold ckE at h
    split at h <;> first | (cases h; done) | skip
    exact se_not (ih.1 X c k fa fd C G _ h)
  | ite d a b ihd iha ihb =>
    refine ⟨fun X c k fa fd C G x h => ?_, noL fun _ _ => rfl, noI fun _ _ => rfl⟩
    unfold ckE at h
    split at h <;> first | (cases h; done) | skip
    simp only [Bool.and_eq_true] at h
    obtain ⟨h1, h2, h3⟩ := h
    exact ⟨se_ite (ihd.1 X c k fa fd C G _ h1).2 (iha.1 X c k fa fd C G _ h2).1 (ihb.1 X c k fa fd C G _ h3).1, ⟨fun _ _ _ => False, ⟨fun _ _ _ _ _ _ z => z.elim⟩, fun _ _ _ _ _ _ _ _ z _ => z⟩⟩
  | dget o k d iho ihk ihd =>
    refine ⟨fun X c kk fa fd C G x h => ?_, noL fun _ _ => rfl, noI fun _ _ => rfl⟩
    unfold ckE at h
    split at h <;> first | (cases h; done) | skip
    simp only [Bool.and_eq_true, decide_eq_true_eq, Bool.not_eq_true'] at h
    obtain ⟨rfl, h1, h2, h3, h4, h5, h6, h7⟩ := h
    exact .ofE rfl (se_dget G.u66 h3 h4 h1 h2 (iho.1 X c kk fa fd C G _ h5).1 (ihk.1 X c kk fa fd C G _ h6).1 (ihd.1 X c kk fa fd C G _ h7).1)
  | ix a i iha ihi =>
    refine ⟨fun X c k fa fd C G x h => ?_, noL fun _ _ => rfl, noI fun _ _ => rfl⟩
    unfold ckE at h
    split at h <;> first | (cases h; done) | skip
    simp only [Bool.and_eq_true] at h
    obtain ⟨h0, h1, h2⟩ := h
    exact .ofE rfl (se_ix G.u1 h0 (iha.1 X c k fa fd C G _ h1).1 (ihi.1 X c k fa fd C G _ h2).1)
  | slice a lo hi iha ihl ihh =>
    refine ⟨fun X c k fa fd C G x h => ?_, noL fun _ _ => rfl, noI fun _ _ => rfl⟩
    unfold ckE at h
    split at h <;> first | (cases h; done) | skip
    rw [Bool.and_eq_true, Bool.and_eq_true] at h
    obtain ⟨h1, h2, h3⟩ := h
    have part : ∀ {e : E} {l : Option Expr}, SndE e → (match l with | none => isNil e | some y => !isNil e && ckE e c y) = true → SO X (partW e (w C e).e) l := fun {e l} s h => by
      cases l with
      | none =>
        have h : isNil e = true := h
        have e2 : partW e (w C e).e = fun _ M Q => Q none M := by
          unfold partW
          funext σ M Q
          rw [if_pos h]
        rw [e2]
        exact so_none
      | some y =>
        have h : (!isNil e && ckE e c y) = true := h
        rw [Bool.and_eq_true] at h
        have e2 : partW e (w C e).e = fun σ M Q => (w C e).e σ M fun x M1 => ∃ i, x = .int i ∧ Q (some i) M1 := by
          unfold partW
          funext σ M Q
          rw [if_neg (by simpa using h.1)]
        rw [e2]
        exact so_some (s X c k fa fd C G _ h.2).1
    exact .ofE rfl (se_slice (iha.1 X c k fa fd C G _ h1).1 (part ihl.1 h2) (part ihh.1 h3))
  | call f es ih =>
    refine ⟨fun X c k fa fd C G x h => ?_, noL fun _ _ => rfl, noI fun _ _ => rfl⟩
    unfold ckE at h
    split at h <;> first | (cases h; done) | skip
    rename_i e x p xs pos
    rw [Bool.and_eq_true] at h
    obtain ⟨h1, h2⟩ := h
    unfold gFn at h1
    rw [Bool.and_eq_true, Bool.and_eq_true] at h1
    obtain ⟨h3, h4, h5⟩ := h1
    obtain ⟨o1, _, _⟩ := okN_of h5
    cases hd : c.T[f]? with
    | none => rw [hd] at h3; cases h3
    | some d =>
      rw [hd] at h3
      simp only [Bool.and_eq_true, decide_eq_true_eq] at h3
      obtain ⟨hcl, rfl, h3⟩ := h3
      obtain ⟨g1, g2, g3, g4⟩ := G.fns f d hd
      have g1 := g1 hcl
      obtain ⟨sa, ns, _, hn⟩ := ih.2.1 X c k fa fd C G _ h2
      cases xs with
      | nil =>
        have e := hn rfl
        subst e
        exact .ofE rfl (se_call0 g4 G.room0 (gl_of G h4) g1 g2 g3 o1)
      | cons y ys => exact .ofE rfl (se_call g4 G.room0 (gl_of G h4) g1 g2 g3 o1 ns sa)
  | blt f es ih =>
    refine ⟨fun X c k fa fd C G x h => ?_, noL fun _ _ => rfl, noI fun _ _ => rfl⟩
    unfold ckE at h
    split at h <;> first | (cases h; done) | skip
    rename_i e x p xs pos
    rw [Bool.and_eq_true, Bool.and_eq_true, Bool.and_eq_true] at h
    obtain ⟨h1, h2, h3, h4⟩ := h
    obtain ⟨v, hv⟩ := Option.isSome_iff_exists.mp h2
    obtain ⟨b1, b2⟩ := boot_of hv
    obtain ⟨e1, e2, e3, e4, e5⟩ := gBl_of G h1 b2
    obtain ⟨sa, ns, _, hn⟩ := ih.2.1 X c k fa fd C G _ h4
    cases xs with
    | nil => cases h3
    | cons y ys => exact .ofE rfl (se_blt G.calm G.u66 hv e2 e3 (by rw [e1]; exact b1) e5 e4 ns sa)
  | mth m o es iho ih =>
    refine ⟨fun X c k fa fd C G x h => ?_, noL fun _ _ => rfl, noI fun _ _ => rfl⟩
    unfold ckE at h
    split at h <;> first | (cases h; done) | skip
    rename_i e y a apos xs pos
    rw [Bool.and_eq_true, Bool.and_eq_true, Bool.and_eq_true, Bool.and_eq_true, Bool.and_eq_true] at h
    obtain ⟨h1, h2, h3, h4, h5, h6⟩ := h
    cases hm : mfnT m with
    | none => rw [hm] at h1; cases h1
    | some t =>
      rw [hm] at h1
      obtain ⟨T, n, id⟩ := t
      obtain rfl : a = n := of_decide_eq_true h1
      obtain ⟨sa, ns, _, hn⟩ := ih.2.1 X c k fa fd C G _ h6
      exact .ofE rfl (se_mth G.u66 hm ns (of_decide_eq_true h4) h2 h3 (iho.1 X c k fa fd C G _ h5).1 sa fun z => by rw [hn z]; rfl)
  | isinst a t ih =>
    refine ⟨fun X c k fa fd C G x h => ?_, noL fun _ _ => rfl, noI fun _ _ => rfl⟩
    unfold ckE at h
    split at h <;> first | (cases h; done) | skip
    rw [Bool.and_eq_true, Bool.and_eq_true, Bool.and_eq_true, Bool.and_eq_true] at h
    obtain ⟨h1, h2, h3, h4, h5⟩ := h
    obtain ⟨e1, e2, e3, e4, e5⟩ := gBl_of G h1 (by decide +kernel)
    have ht2 : Str.ofString t ∈ bltNames := by
      have h3 := h3
      unfold tyOk at h3
      simp only [Bool.or_eq_true, beq_iff_eq] at h3
      rcases h3 with (((h | h) | h) | h) | h <;> subst h <;> decide +kernel
    obtain ⟨f1, f2, f3, f4, f5⟩ := gBl_of G h2 ht2
    exact se_isinst h3 e1 f1 e2 e3 f2 f3 (by simpa using h4) (ih.1 X c k fa fd C G _ h5).1
  | comp own tg it cnd elt ih1 ih2 ih3 =>
    refine ⟨fun X c k fa fd C G x h => ?_, noL fun _ _ => rfl, noI fun _ _ => rfl⟩
    unfold ckE at h
    split at h <;> first | (cases h; done) | skip
    rename_i e x g itx ifs is_ scope pos
    rw [Bool.and_eq_true, Bool.and_eq_true, Bool.and_eq_true, Bool.and_eq_true, Bool.and_eq_true, Bool.and_eq_true, Bool.and_eq_true, Bool.and_eq_true] at h
    obtain ⟨h1, ⟨hen, h2⟩, h3, h4, h5, h6, h7, h8⟩ := h
    obtain rfl : is_ = 0 := of_decide_eq_true h1
    have co := compOk_of G ih2.1 ih3.1 h4 (of_decide_eq_true h5) h6 h7 h8
    rcases ih1.2.2 X c k fa fd C G itx g h2 hen with hi | ⟨i, rfl, hi⟩
    · exact .ofE rfl (se_comp hi co h3)
    · exact .ofE rfl (se_compK hi co h3)
  | fld f o ih =>
    refine ⟨fun X c k fa fd C G x h => ?_, noL fun _ _ => rfl, noI fun _ _ => rfl⟩
    unfold ckE at h
    split at h <;> first | (cases h; done) | skip
    simp only [Bool.and_eq_true, decide_eq_true_eq] at h
    obtain ⟨rfl, h1, h2⟩ := h
    exact .ofE rfl (se_fld h1 (ih.1 X c k fa fd C G _ h2).1)
  | meth cn m f o es iho ih =>
    refine ⟨fun X c k fa fd C G x h => ?_, noL fun _ _ => rfl, noI fun _ _ => rfl⟩
    unfold ckE at h
    split at h <;> first | (cases h; done) | skip
    rename_i e y a apos xs pos
    simp only [Bool.and_eq_true, decide_eq_true_eq] at h
    obtain ⟨rfl, h1, h0, h2, h3, h4, h5, h6⟩ := h
    obtain ⟨cd, hcd, hcn, p, hp, rfl⟩ : ∃ cd, cd ∈ c.cs ∧ cd.name = cn ∧ ∃ p ∈ cd.mets, p = (a, f) := by
      unfold hasMeth at h1
      obtain ⟨cd, h7, h8⟩ := List.any_eq_true.mp h1
      rw [Bool.and_eq_true] at h8
      obtain ⟨p, h9, h10⟩ := List.any_eq_true.mp h8.2
      exact ⟨cd, h7, of_decide_eq_true h8.1, p, h9, of_decide_eq_true h10⟩
    subst hcn
    obtain ⟨d, hd⟩ := Option.isSome_iff_exists.mp h0
    obtain ⟨_, g2, g3, g4⟩ := G.fns f d hd
    have ck := G.clss cd hcd
    obtain ⟨sa, ns, _, hn⟩ := ih.2.1 X c k fa fd C G _ h6
    exact .ofE rfl (se_meth g4 G.room0 ck.cls (ck.mets _ hp) g3 ns h4 h2 h3 (iho.1 X c k fa fd C G _ h5).1 sa fun z => by rw [hn z]; rfl)
  | make cn f es ih =>
    refine ⟨fun X c k fa fd C G x h => ?_, noL fun _ _ => rfl, noI fun _ _ => rfl⟩
    unfold ckE at h
    split at h <;> first | (cases h; done) | skip
    simp only [Bool.and_eq_true, decide_eq_true_eq] at h
    obtain ⟨rfl, h1, h0, ⟨h2, h3⟩, h4⟩ := h
    obtain ⟨cd, hcd, hcn, hi⟩ : ∃ cd, cd ∈ c.cs ∧ cd.name = _ ∧ cd.init = some f := by
      unfold hasInit at h1
      obtain ⟨cd, h7, h8⟩ := List.any_eq_true.mp h1
      rw [Bool.and_eq_true] at h8
      exact ⟨cd, h7, of_decide_eq_true h8.1, of_decide_eq_true h8.2⟩
    subst hcn
    obtain ⟨d, hd⟩ := Option.isSome_iff_exists.mp h0
    obtain ⟨_, g2, g3, g4⟩ := G.fns f d hd
    have ck := G.clss cd hcd
    obtain ⟨sa, ns, _, hn⟩ := ih.2.1 X c k fa fd C G _ h4
    exact .ofE rfl (se_make (ck.init f hi).1 g4 G.room (gl_of G h2) (ck.init f hi).2 ck.cls g3 (okN_of h3).1 ns sa fun z => by rw [hn z]; rfl)
  | prop cn m f o ih =>
    refine ⟨fun X c k fa fd C G x h => ?_, noL fun _ _ => rfl, noI fun _ _ => rfl⟩
    unfold ckE at h
    split at h <;> first | (cases h; done) | skip
    simp only [Bool.and_eq_true, decide_eq_true_eq] at h
    obtain ⟨rfl, h1, h0, h2, h3⟩ := h
    obtain ⟨cd, hcd, hcn, p, hp, rfl⟩ : ∃ cd, cd ∈ c.cs ∧ cd.name = cn ∧ ∃ p ∈ cd.prps, p = (_, f) := by
      unfold hasProp at h1
      obtain ⟨cd, h7, h8⟩ := List.any_eq_true.mp h1
      rw [Bool.and_eq_true] at h8
      obtain ⟨p, h9, h10⟩ := List.any_eq_true.mp h8.2
      exact ⟨cd, h7, of_decide_eq_true h8.1, p, h9, of_decide_eq_true h10⟩
    subst hcn
    obtain ⟨d, hd⟩ := Option.isSome_iff_exists.mp h0
    obtain ⟨_, g2, g3, g4⟩ := G.fns f d hd
    have ck := G.clss cd hcd
    obtain ⟨pa, hpp⟩ := ck.prps _ hp
    exact .ofE rfl (se_prop g4 G.room ck.cls hpp g3 h2 (ih.1 X c k fa fd C G _ h3).1)
  | setdef o k d iho ihk ihd =>
    refine ⟨fun X c kk fa fd C G x h => ?_, noL fun _ _ => rfl, noI fun _ _ => rfl⟩
    unfold ckE at h
    split at h <;> first | (cases h; done) | skip
    simp only [Bool.and_eq_true, decide_eq_true_eq, Bool.not_eq_true'] at h
    obtain ⟨rfl, h1, h2, h3, h4, h5, h6, h7⟩ := h
    exact .ofE rfl (se_setdef h3 h4 h1 h2 (iho.1 X c kk fa fd C G _ h5).1 (ihk.1 X c kk fa fd C G _ h6).1 (ihd.1 X c kk fa fd C G _ h7).1)
  | lrng t a b iha ihb =>
    refine ⟨fun X c k fa fd C G x h => ?_, noL fun _ _ => rfl, noI fun _ _ => rfl⟩
    have inL : ((if t then "tuple" else "list") : Str) ∈ bltNames := by cases t <;> decide +kernel
    unfold ckE at h
    split at h <;> first | (cases h; done) | skip
    · simp only [Bool.and_eq_true, Bool.not_eq_true'] at h
      obtain ⟨h1, h2, h3, h4, h5⟩ := h
      obtain ⟨e1, e2, e3, _, _⟩ := gBl_of G h1 inL
      obtain ⟨f1, f2, f3, _, _⟩ := gBl_of G h2 (by decide +kernel)
      have ep : partW a (w C a).e = fun _ M Q => Q none M := by
        unfold partW
        funext σ M Q
        rw [if_pos h4]
      refine .ofE rfl ?_
      rw [ep]
      exact se_lrng1 (t := t) G.calm e1 f1 e2 e3 f2 f3 h3 (ihb.1 X c k fa fd C G _ h5).1
    · simp only [Bool.and_eq_true, Bool.not_eq_true'] at h
      obtain ⟨h1, h2, h3, h4, h5, h6, h7⟩ := h
      obtain ⟨e1, e2, e3, _, _⟩ := gBl_of G h1 inL
      obtain ⟨f1, f2, f3, _, _⟩ := gBl_of G h2 (by decide +kernel)
      have ep : partW a (w C a).e = fun σ M Q => (w C a).e σ M fun x M1 => ∃ i, x = .int i ∧ Q (some i) M1 := by
        unfold partW
        funext σ M Q
        rw [if_neg (by rw [h5]; decide)]
      refine .ofE rfl ?_
      rw [ep]
      exact se_lrng2 (t := t) G.calm e1 f1 e2 e3 f2 f3 h3 h4 (iha.1 X c k fa fd C G _ h6).1 (ihb.1 X c k fa fd C G _ h7).1
  | tidx o a iho iha =>
    refine ⟨fun X c k fa fd C G x h => ?_, noL fun _ _ => rfl, noI fun _ _ => rfl⟩
    unfold ckE at h
    split at h <;> first | (cases h; done) | skip
    simp only [Bool.and_eq_true, decide_eq_true_eq, Bool.not_eq_true'] at h
    obtain ⟨rfl, h1, h2, h3, h4, h5⟩ := h
    exact .ofE rfl (se_tidx h3 h1 h2 (iho.1 X c k fa fd C G _ h4).1 (iha.1 X c k fa fd C G _ h5).1)
  | gint x i =>
    refine ⟨fun X c k fa fd C G x h => ?_, noL fun _ _ => rfl, noI fun _ _ => rfl⟩
    unfold ckE at h
    split at h <;> first | (cases h; done) | skip
    simp only [Bool.and_eq_true, decide_eq_true_eq] at h
    obtain ⟨rfl, ⟨h1, h2⟩, h3⟩ := h
    obtain ⟨p, hp, e⟩ := List.any_eq_true.mp h3
    have e := of_decide_eq_true e
    subst e
    obtain ⟨t, ht⟩ := G.kints _ hp
    exact .ofE rfl (se_gl (v := .int i) (gl_of G h1) ht ⟨t, rfl⟩ (fun _ => .int i) (okN_of h2).1)
  | gstr x i =>
    refine ⟨fun X c k fa fd C G x h => ?_, noL fun _ _ => rfl, noI fun _ _ => rfl⟩
    unfold ckE at h
    split at h <;> first | (cases h; done) | skip
    simp only [Bool.and_eq_true, decide_eq_true_eq] at h
    obtain ⟨rfl, ⟨h1, h2⟩, h3⟩ := h
    obtain ⟨p, hp, e⟩ := List.any_eq_true.mp h3
    have e := of_decide_eq_true e
    subst e
    obtain ⟨t, ht⟩ := G.kstrs _ hp
    exact .ofE rfl (se_gl (v := .str i) (gl_of G h1) ht ⟨t, rfl⟩ (fun _ => .str i) (okN_of h2).1)
  | iSeq a ih =>
    refine ⟨noE fun _ _ => rfl, noL fun _ _ => rfl, fun X c k fa fd C G x tg h hen => .inl ?_⟩
    exact si_seq (ih.1 X c k fa fd C G _ h).1
  | iRev a ih =>
    refine ⟨noE fun _ _ => rfl, noL fun _ _ => rfl, fun X c k fa fd C G x tg h hen => .inl ?_⟩
    unfold ckI at h
    split at h <;> first | (cases h; done) | skip
    rw [Bool.and_eq_true, Bool.and_eq_true] at h
    obtain ⟨h1, h2, h3⟩ := h
    obtain ⟨e1, e2, e3, e4, e5⟩ := gBl_of G h1 (by decide +kernel)
    exact si_rev e1 e2 e3 (by simpa using h2) (ih.1 X c k fa fd C G _ h3).1
  | iRange a ih =>
    refine ⟨noE fun _ _ => rfl, noL fun _ _ => rfl, fun X c k fa fd C G x tg h hen => .inl ?_⟩
    unfold ckI at h
    split at h <;> first | (cases h; done) | skip
    rw [Bool.and_eq_true, Bool.and_eq_true] at h
    obtain ⟨h1, h2, h3⟩ := h
    obtain ⟨e1, e2, e3, e4, e5⟩ := gBl_of G h1 (by decide +kernel)
    exact si_rng e1 e2 e3 (by simpa using h2) (ih.1 X c k fa fd C G _ h3).1
  | iRange2 a b iha ihb =>
    refine ⟨noE fun _ _ => rfl, noL fun _ _ => rfl, fun X c k fa fd C G x tg h hen => .inl ?_⟩
    unfold ckI at h
    split at h <;> first | (cases h; done) | skip
    rw [Bool.and_eq_true, Bool.and_eq_true, Bool.and_eq_true, Bool.and_eq_true] at h
    obtain ⟨h1, h2, h3, h4, h5⟩ := h
    obtain ⟨e1, e2, e3, e4, e5⟩ := gBl_of G h1 (by decide +kernel)
    exact si_rng2 e1 e2 e3 (by simpa using h2) (by simpa using h3) (iha.1 X c k fa fd C G _ h4).1 (ihb.1 X c k fa fd C G _ h5).1
  | iEnum a ih =>
    refine ⟨noE fun _ _ => rfl, noL fun _ _ => rfl, fun X c k fa fd C G x tg h hen => .inl ?_⟩
    cases tg <;> first | (cases hen; done) | skip
    unfold ckI at h
    split at h <;> first | (cases h; done) | skip
    rw [Bool.and_eq_true, Bool.and_eq_true] at h
    obtain ⟨h1, h2, h3⟩ := h
    obtain ⟨e1, e2, e3, e4, e5⟩ := gBl_of G h1 (by decide +kernel)
    exact si_enum e1 e2 e3 (by simpa using h2) (ih.1 X c k fa fd C G _ h3).1
  | iKeys a ih =>
    refine ⟨noE fun _ _ => rfl, noL fun _ _ => rfl, fun X c k fa fd C G x tg h hen => .inr ?_⟩
    unfold ckI at h
    split at h <;> first | (cases h; done) | skip
    split at h <;> first | (cases h; done) | skip
    exact ⟨_, rfl, pe_varB G h⟩
end Pl

set_option maxHeartbeats 4000000
/-! statements and defs: the check and its worth -/
namespace Pl
open PySem L2
/-- a comprehension stored by its own rule -/
def swapB (x : Str) (p' : Pos) (v : Expr) : Bool := match v with
  | .ListComp _ _ scope vp => (p'.line == vp.line) && !(scope.names.any fun (n, k) => n == x && (k == .local || k == .cell))
  | _ => false
mutual
def ckS : S → Ck → Stmt → Bool
  | .skip, _, st => (match st with | .Pass _ => true | _ => false)
  | .seq _ _, _, _ => false
  | .asg i e, c, st => (match st with
    | .Assign [.Name x p'] v _ => decide (c.N[i]? = some x) && (locB c.sc x && (ckE e c v && (if isComp v = true then swapB x p' v else true)))
    | _ => false)
  | .asgT is e, c, st => (match st with | .Assign [.Tuple es _ _] v _ => namesB c.N (locB c.sc) is es && (notTup v && ckE e c v) | _ => false)
  | .par _ _ _ _, _, _ => false
  | .setF cn f o e, c, st => (match st with | .Assign [.Attribute x a _] v _ => decide (a = f) && (hasFld c cn f && (ckE e c v && ckE o c x)) | _ => false)
  | .setIx o i e, c, st => (match st with | .Assign [.Subscript x y _] v _ => notSlice y && (ckE e c v && (ckE o c x && ckE i c y)) | _ => false)
  | .augV i op e, c, st => (match st with | .AugAssign (.Name x _) o v _ => decide (iopOf op = some o) && (decide (c.N[i]? = some x) && (locB c.sc x && ckE e c v)) | _ => false)
  | .augIx o i op e, c, st => (match st with | .AugAssign (.Subscript x y _) oo v _ => decide (iopOf op = some oo) && (notSlice y && (ckE o c x && (ckE i c y && ckE e c v))) | _ => false)
  | .ifs d a b, c, st => (match st with | .If x p q _ => ckE d c x && (ckB a c p && ckB b c q) | _ => false)
  | .for_ tg it b, c, st => (match st with | .For g x body [] _ => ckTg tg c.N (locB c.sc) g && ((enOk it g && ckI it c x) && (notSet x && ckB b c body)) | _ => false)
  | .whl d b, c, st => (match st with | .While x body [] _ => ckE d c x && ckB b c body | _ => false)
  | .ret e, c, st => (match st with | .Return (some x) _ => ckE e c x | _ => false)
  | .retN, _, st => (match st with | .Return none _ => true | _ => false)
  | .brk, _, st => (match st with | .Break _ => true | _ => false)
  | .cnt, _, st => (match st with | .Continue _ => true | _ => false)
  | .expr e, c, st => (match st with | .Expr x _ => !isComp x && ckE e c x | _ => false)
  | .nvr, _, _ => true
def ckB : S → Ck → List Stmt → Bool
  | .skip, _, sts => sts.isEmpty
  | .seq a b, c, sts => (match sts with | st :: r => ckS a c st && ckB b c r | [] => false)
  | .nvr, _, _ => true
  | _, _, _ => false
end
section
variable {X : Cx} {c : Ck} {k : Nat} {fa : Nat → Addr} {fd : Nat → FuncData} {C : CE}
theorem swap_of (G : Gd X c k fa fd C) {x : Str} {p' vp : Pos} {elt : Expr} {gs : List Comprehension} {scope : Scope} {l : Nat} (hk : X.env.scope.kind = .function) (hs : swapB x p' (.ListComp elt gs scope vp) = true) :
    (ownB c.sc x = true → swapsWith (.ListComp elt gs scope vp) (some (.Name x p')) l X.env = pure true) ∧ (ownB c.sc x = false → swapsWith (.ListComp elt gs scope vp) (some (.Name x p')) l X.env = pure false) := by
  unfold swapB at hs
  rw [Bool.and_eq_true] at hs
  have h2 : (scope.names.any fun (n, k) => n == x && (k == .local || k == .cell)) = false := by simpa using hs.2
  refine ⟨fun h => sw_true hk (own_of G h) hs.1 h2, fun h => ?_⟩
  have hb : X.env.blockKind = .function := by unfold Env.blockKind; rw [hk]; rfl
  have hn : (X.env.kindOf x == some .local) = false := by
    have e : X.env.kindOf x = c.sc.names.lookup x := by
      show X.env.scope.names.lookup x = _
      rw [G.sc]
    rw [e]
    unfold ownB at h
    split at h
    · cases h
    · rename_i hz
      cases q : c.sc.names.lookup x with
      | none => rfl
      | some kd => cases kd <;> first | rfl | exact absurd q hz
  unfold swapsWith
  simp only [hn, Bool.and_false, Bool.false_and]
theorem comp_parts (G : Gd X c k fa fd C) {e : E} {x : Expr} {gens : List Comprehension} {scope : Scope} {pos : Pos} (h : ckE e c (.ListComp x gens scope pos) = true) :
    ∃ own tg it fc fe g itx ifs, gens = [⟨g, itx, ifs, 0⟩] ∧ (w C e).e = compW (w C it).i tg fc fe ∧ CompOk X g x ifs scope own tg fc fe ∧ notSet itx = true ∧ (SI X g itx (w C it).i ∨ ∃ i, it = .iKeys (.var i) ∧ PE X itx (tVar i)) := by
  cases e <;> first | (unfold ckE at h; cases h; done) | (unfold ckE at h; simp at h; done) | skip
  rename_i own tg it cnd elt
  unfold ckE at h
  split at h <;> first | (cases h; done) | skip
  rename_i e2 x2 g itx ifs is_ scope2 pos2 heq
  cases heq
  rw [Bool.and_eq_true, Bool.and_eq_true, Bool.and_eq_true, Bool.and_eq_true, Bool.and_eq_true, Bool.and_eq_true, Bool.and_eq_true, Bool.and_eq_true] at h
  obtain ⟨h1, ⟨hen, h2⟩, h3, h4, h5, h6, h7, h8⟩ := h
  obtain rfl : is_ = 0 := of_decide_eq_true h1
  have co := compOk_of G (sound cnd).1 (sound elt).1 h4 (of_decide_eq_true h5) h6 h7 h8
  exact ⟨own, tg, it, _, _, g, itx, ifs, rfl, rfl, co, h3, (sound it).2.2 X c k fa fd C G itx g h2 hen⟩
end
def SndS (a : S) : Prop := ∀ (X : Cx) (c : Ck) (k : Nat) (fa : Nat → Addr) (fd : Nat → FuncData) (C : CE), Gd X c k fa fd C → (∀ x, X.fn x = true) → X.env.scope.kind = .function → ∀ st, ckS a c st = true → SS X (wS C a) st
def SndB (a : S) : Prop := ∀ (X : Cx) (c : Ck) (k : Nat) (fa : Nat → Addr) (fd : Nat → FuncData) (C : CE), Gd X c k fa fd C → (∀ x, X.fn x = true) → X.env.scope.kind = .function → ∀ sts, ckB a c sts = true → SSs X (wS C a) sts
theorem noB {a : S} (h : ∀ c x, ckB a c x = false) : SndB a := fun X c k fa fd C G hf hk x q => by rw [h c x] at q; cases q
theorem noS {a : S} (h : ∀ c x, ckS a c x = false) : SndS a := fun X c k fa fd C G hf hk x q => by rw [h c x] at q; cases q
theorem soundS (a : S) : SndS a ∧ SndB a := by
  induction a with
  | skip =>
    refine ⟨fun X c k fa fd C G hf hk st h => ?_, fun X c k fa fd C G hf hk sts h => ?_⟩
    · unfold ckS at h
      split at h <;> first | (cases h; done) | skip
      exact ss_pass
    · cases sts with
      | nil => exact sss_nil
      | cons _ _ => cases h
  | seq a b iha ihb =>
    refine ⟨noS fun _ _ => rfl, fun X c k fa fd C G hf hk sts h => ?_⟩
    cases sts with
    | nil => cases h
    | cons st r =>
      have h : (ckS a c st && ckB b c r) = true := h
      rw [Bool.and_eq_true] at h
      exact sss_cons (f := wS C a) (g := wS C b) (iha.1 X c k fa fd C G hf hk st h.1) (ihb.2 X c k fa fd C G hf hk r h.2)
  | asg i e =>
    refine ⟨fun X c k fa fd C G hf hk st h => ?_, noB fun _ _ => rfl⟩
    unfold ckS at h
    split at h <;> first | (cases h; done) | skip
    rename_i st x p' v pos
    rw [Bool.and_eq_true, Bool.and_eq_true, Bool.and_eq_true] at h
    obtain ⟨h1, h2, h3, h4⟩ := h
    have hN : X.N.Nodup := by rw [G.N]; exact G.nd
    have hi : X.N[i]? = some x := by rw [G.N]; exact of_decide_eq_true h1
    cases hc : isComp v with
    | false => exact ss_asg hN hi (loc_of G h2) (no_swap hc) (hf x) ((sound e).1 X c k fa fd C G v h3).1
    | true =>
      rw [if_pos hc] at h4
      cases v <;> first | (cases h4; done) | skip
      rename_i elt gens scope vp
      obtain ⟨s1, s2⟩ := swap_of (l := pos.line) G hk h4
      cases ho : ownB c.sc x with
      | false => exact ss_asg hN hi (loc_of G h2) (s2 ho) (hf x) ((sound e).1 X c k fa fd C G _ h3).1
      | true =>
        obtain ⟨own, tg, it, fc, fe, g, itx, ifs, rfl, ew, co, hs, hit⟩ := comp_parts G h3
        show SS X (fun D σ M => (w C e).e σ M fun x M1 => D.nx (σ.set i (some x)) M1) _
        rw [ew]
        rcases hit with hit | ⟨j, rfl, hit⟩
        · exact ss_asgC hi (own_of G ho) (s1 ho) hit co hs
        · exact ss_asgCK hi (own_of G ho) (s1 ho) hit co hs
  | asgT is e =>
    refine ⟨fun X c k fa fd C G hf hk st h => ?_, noB fun _ _ => rfl⟩
    unfold ckS at h
    split at h <;> first | (cases h; done) | skip
    rw [Bool.and_eq_true, Bool.and_eq_true] at h
    obtain ⟨h1, h2, h3⟩ := h
    exact ss_asgT G.calm (by rw [G.N]; exact G.nd) (ok := locB c.sc) (fun x hx => ⟨loc_of G hx, .inl (hf x)⟩) (by rw [G.N]; exact h1) h2 ((sound e).1 X c k fa fd C G _ h3).1
  | par i j a b => exact ⟨noS fun _ _ => rfl, noB fun _ _ => rfl⟩
  | setF cn f o e =>
    refine ⟨fun X c k fa fd C G hf hk st h => ?_, noB fun _ _ => rfl⟩
    unfold ckS at h
    split at h <;> first | (cases h; done) | skip
    simp only [Bool.and_eq_true, decide_eq_true_eq] at h
    obtain ⟨rfl, h1, h2, h3⟩ := h
    obtain ⟨cd, hcd, hcn, p, hp, rfl⟩ : ∃ cd, cd ∈ c.cs ∧ cd.name = cn ∧ ∃ p ∈ cd.flds, p = _ := by
      unfold hasFld at h1
      obtain ⟨cd, h7, h8⟩ := List.any_eq_true.mp h1
      rw [Bool.and_eq_true] at h8
      obtain ⟨p, h9, h10⟩ := List.any_eq_true.mp h8.2
      exact ⟨cd, h7, of_decide_eq_true h8.1, p, h9, of_decide_eq_true h10⟩
    subst hcn
    have ck := G.clss cd hcd
    exact ss_setF ck.cls (ck.flds _ hp) ((sound e).1 X c k fa fd C G _ h2).1 ((sound o).1 X c k fa fd C G _ h3).1
  | setIx o i e =>
    refine ⟨fun X c k fa fd C G hf hk st h => ?_, noB fun _ _ => rfl⟩
    unfold ckS at h
    split at h <;> first | (cases h; done) | skip
    rw [Bool.and_eq_true, Bool.and_eq_true, Bool.and_eq_true] at h
    obtain ⟨h0, h1, h2, h3⟩ := h
    exact ss_setIx G.u1 ((sound e).1 X c k fa fd C G _ h1).1 ((sound o).1 X c k fa fd C G _ h2).1 ((sound i).1 X c k fa fd C G _ h3).1 h0
  | augV i op e =>
    refine ⟨fun X c k fa fd C G hf hk st h => ?_, noB fun _ _ => rfl⟩
    unfold ckS at h
    split at h <;> first | (cases h; done) | skip
    rw [Bool.and_eq_true, Bool.and_eq_true, Bool.and_eq_true] at h
    obtain ⟨h0, h1, h2, h3⟩ := h
    exact ss_augV (of_decide_eq_true h0) (by rw [G.N]; exact G.nd) (by rw [G.N]; exact of_decide_eq_true h1) (loc_of G h2) (hf _) ((sound e).1 X c k fa fd C G _ h3).1
  | augIx o i op e =>
    refine ⟨fun X c k fa fd C G hf hk st h => ?_, noB fun _ _ => rfl⟩
    unfold ckS at h
    split at h <;> first | (cases h; done) | skip
    rw [Bool.and_eq_true, Bool.and_eq_true, Bool.and_eq_true, Bool.and_eq_true] at h
    obtain ⟨h0, hs, h1, h2, h3⟩ := h
    exact ss_augIx (of_decide_eq_true h0) G.u1 ((sound o).1 X c k fa fd C G _ h1).1 ((sound i).1 X c k fa fd C G _ h2).1 ((sound e).1 X c k fa fd C G _ h3).1 hs
  | ifs d a b iha ihb =>
    refine ⟨fun X c k fa fd C G hf hk st h => ?_, noB fun _ _ => rfl⟩
    unfold ckS at h
    split at h <;> first | (cases h; done) | skip
    rw [Bool.and_eq_true, Bool.and_eq_true] at h
    obtain ⟨h1, h2, h3⟩ := h
    exact ss_if ((sound d).1 X c k fa fd C G _ h1).2 (iha.2 X c k fa fd C G hf hk _ h2) (ihb.2 X c k fa fd C G hf hk _ h3)
  | for_ tg it b ih =>
    refine ⟨fun X c k fa fd C G hf hk st h => ?_, noB fun _ _ => rfl⟩
    unfold ckS at h
    split at h <;> first | (cases h; done) | skip
    rename_i st g x body pos
    rw [Bool.and_eq_true, Bool.and_eq_true, Bool.and_eq_true, Bool.and_eq_true] at h
    obtain ⟨h1, ⟨hen, h2⟩, h3, h4⟩ := h
    have hb := ih.2 X c k fa fd C G hf hk _ h4
    rcases (sound it).2.2 X c k fa fd C G x g h2 hen with hi | ⟨i, rfl, hi⟩
    · exact ss_for G.xe G.calm hi (sg_ofF G hf h1) hb h3
    · exact ss_forK G.xe G.calm hi (sg_ofF G hf h1) hb h3
  | whl d b ih =>
    refine ⟨fun X c k fa fd C G hf hk st h => ?_, noB fun _ _ => rfl⟩
    unfold ckS at h
    split at h <;> first | (cases h; done) | skip
    rw [Bool.and_eq_true] at h
    exact ss_whl G.xe ((sound d).1 X c k fa fd C G _ h.1).2 (ih.2 X c k fa fd C G hf hk _ h.2)
  | ret e =>
    refine ⟨fun X c k fa fd C G hf hk st h => ?_, noB fun _ _ => rfl⟩
    unfold ckS at h
    split at h <;> first | (cases h; done) | skip
    exact ss_ret ((sound e).1 X c k fa fd C G _ h).1
  | retN =>
    refine ⟨fun X c k fa fd C G hf hk st h => ?_, noB fun _ _ => rfl⟩
    unfold ckS at h
    split at h <;> first | (cases h; done) | skip
    exact ss_retN
  | brk =>
    refine ⟨fun X c k fa fd C G hf hk st h => ?_, noB fun _ _ => rfl⟩
    unfold ckS at h
    split at h <;> first | (cases h; done) | skip
    exact ss_break
  | cnt =>
    refine ⟨fun X c k fa fd C G hf hk st h => ?_, noB fun _ _ => rfl⟩
    unfold ckS at h
    split at h <;> first | (cases h; done) | skip
    exact ss_cont
  | expr e =>
    refine ⟨fun X c k fa fd C G hf hk st h => ?_, noB fun _ _ => rfl⟩
    unfold ckS at h
    split at h <;> first | (cases h; done) | skip
    rw [Bool.and_eq_true] at h
    exact ss_expr (by simpa using h.1) ((sound e).1 X c k fa fd C G _ h.2).1
  | nvr => exact ⟨fun X c k fa fd C G hf hk st h => ss_nvr, fun X c k fa fd C G hf hk sts h => sss_nvr⟩
end Pl

set_option maxHeartbeats 400000
/-! the defs of a text keep their promises -/
namespace Pl
open PySem L2
def scopeB (N ps : List Str) (sc : Scope) : Bool :=
  decide (sc.kind = .function) && (!sc.isCoroutine && (!sc.isGenerator && (decide N.Nodup && (decide (N.take ps.length = ps) && ((ps.all fun x => locB sc x) && sc.names.all fun y => decide (y.2 ≠ .free))))))
theorem scope_of {N ps : List Str} {sc : Scope} (h : scopeB N ps sc = true) : FnScope N ps sc := by
  unfold scopeB at h
  simp only [Bool.and_eq_true, decide_eq_true_eq, Bool.not_eq_true', List.all_eq_true] at h
  obtain ⟨h1, h2, h3, h4, h5, h6, h7⟩ := h
  refine ⟨h1, h2, h3, h4, h5, fun x hx => ?_, fun y hy => h7 y hy⟩
  have q := h6 x hx
  unfold locB at q
  split at q
  · exact .inl (by assumption)
  · exact .inr (by assumption)
  · cases q
/-- a text: its defs, its classes, its constants -/
structure Pg where
  T : List Df
  cs : List Cd := []
  ks : List (Str × Int) := []
  ss : List (Str × Str) := []
def Pg.ck (G : Pg) (d : Df) (st : Stmt) : Ck := ⟨defScope st, d.N, G.T, G.cs, G.ks, G.ss⟩
/-- one def against its text -/
def ckF (G : Pg) (d : Df) (st : Stmt) : Bool := scopeB d.N d.ps (defScope st) && ckB d.b (G.ck d st) (defBody st)
/-- its arguments bind -/
def BindP (x q : Str) (st : Stmt) (ps : List Str) : Prop := ∀ (kV doc pm : Value) (an : Option Addr) (cdv ct : Value) (us : List Value), us.length = ps.length → bindArgs (PySem.W.fnOf x q (defArgs st) (defBody st) (defScope st) .none kV doc pm an cdv ct) ⟨us, []⟩ = pure (ps.zip us)
theorem Cs_len {T : List Df} {k i : Nat} {d : Df} {us : List U} {M : Hm} {Q : QU} (hd : T[i]? = some d) (h : Cs T k i us M Q) : us.length = d.ps.length := by
  cases k with
  | zero => exact h.elim
  | succ k =>
    obtain ⟨d', hd', hl, _⟩ := h
    rw [hd] at hd'
    cases hd'
    exact hl
theorem relS_start {K : Fg} {H : Hp} {N : List Str} {vs : List V} {us : List U} (r : RelL K H vs us) : RelS K H (L2.start N vs) (startU N.length us) := by
  refine ⟨by unfold L2.start startU; simp [r.length], fun i u e => ?_⟩
  unfold startU at e
  by_cases hi : i < us.length
  · rw [List.getElem?_append_left (by simpa using hi), List.getElem?_map] at e
    cases q : us[i]? with
    | none => rw [q] at e; cases e
    | some u' =>
      rw [q] at e
      cases e
      obtain ⟨v, hv, rv⟩ := r.get q
      refine ⟨v, ?_, rv⟩
      unfold L2.start
      rw [List.getElem?_append_left (by simpa [r.length] using hi), List.getElem?_map, hv]
      rfl
  · rw [List.getElem?_append_right (by simpa using hi)] at e
    rw [List.getElem?_replicate] at e
    split at e <;> cases e
section
variable {P : Program} {wd : World} {K : Fg} {mg : Str → Option Value} {base : Heap}
theorem fn_ok {G : Pg} {fa : Nat → Addr} {fd : Nat → FuncData}
    (hF : ∀ i d, G.T[i]? = some d → ∃ st, FunD K d.name d.qual (defArgs st) (defBody st) (defScope st) [] [] (fa i) (fd i) ∧ ckF G d st = true ∧ BindP d.name d.qual st d.ps)
    (hmg : ∀ i d, G.T[i]? = some d → d.cls = none → mg d.name = some (.ref (fa i))) (hblt : ∀ x ∈ bltNames, mg x = none) (hcls : ∀ cd ∈ G.cs, ClsK K mg fa cd)
    (hks : ∀ p ∈ G.ks, ∃ t, mg p.1 = some (.int p.2 t)) (hss : ∀ p ∈ G.ss, ∃ t, mg p.1 = some (.str p.2 t)) :
    ∀ (k i : Nat) (d : Df), G.T[i]? = some d → FnOk P wd K mg base CX0 (2 * k) (fa i) (fd i) d.ps (spOf K (Cs G.T k i)) := by
  intro k
  induction k with
  | zero =>
    intro i d hd
    refine ⟨fun vs H Q E ⟨us, M, Qu, S, r, h, c⟩ => h.elim, fun A outer s H args us vs Q E _ _ _ _ ⟨_, _, _, _, _, h, _⟩ => h.elim⟩
  | succ k ih =>
    intro i d hd
    obtain ⟨st, F, ck, _⟩ := hF i d hd
    unfold ckF at ck
    rw [Bool.and_eq_true] at ck
    refine F.ok (k := 2 * k + 1) (scope_of ck.1) (fun vs H Q E ⟨us, M, Qu, S, r, h, c⟩ => by rw [r.length]; exact Cs_len hd h) (fun cdv A outer s H vs Q E hr ⟨us, M, Qu, S, r, h, c⟩ => ?_)
    have Gg : Gd (cxOf CX0 P wd K mg base d.N d.qual (defScope st) (fa i) cdv A outer s H E).nox (G.ck d st) (2 * k) fa fd (Cs G.T k) := by
      refine ⟨rfl, rfl, (scope_of ck.1).nd, rfl, rfl, hr, hblt, fun j dj hj => ?_, hcls, hks, hss⟩
      obtain ⟨stj, Fj, _, bj⟩ := hF j dj hj
      exact ⟨hmg j dj hj, Fj.kp, Fj.bindsN bj, ih j dj hj⟩
    obtain ⟨t, p, q⟩ := (soundS d.b).2 _ _ (2 * k) fa fd (Cs G.T k) Gg (fun _ => rfl) (scope_of ck.1).kind _ ck.2
    refine ⟨t, p.nox, ?_⟩
    obtain ⟨d', hd', hl, hw⟩ := h
    rw [hd] at hd'
    cases hd'
    refine q _ _ _ H _ M (relS_start r) S hw ⟨fun σ' H' σu' M' st' rs' S' ⟨M2, sb, hq⟩ => ?_, fun v H' u M' st' S' rv ⟨M2, sb, hq⟩ => ?_, fun _ _ _ _ _ _ _ z => z.elim, fun _ _ _ _ _ _ _ z => z.elim⟩
    · exact c _ _ .non M2 (st'.trans S (Stp.sub sb)) (S'.sub sb) .non hq
    · exact c _ _ u M2 (st'.trans S (Stp.sub sb)) (S'.sub sb) rv hq
end

/-! ### the head's facts for such a text -/
def nameOf : Stmt → Str
  | .FunctionDef n .. => n
  | _ => ""
/-- a class's i-th statement -/
def inCls (s : Stmt) (i : Nat) : Stmt := match s with
  | .ClassDef (body := b) .. => b.getD i (.Pass ⟨0, 0, 0, 0⟩)
  | _ => .Pass ⟨0, 0, 0, 0⟩
/-- the table against the text, def by def -/
def ckT (G : Pg) (sts : List Stmt) : Bool := decide (G.T.length = sts.length) && (List.zip G.T sts).all fun (p : Df × Stmt) => decide (nameOf p.2 = p.1.name) && ckF G p.1 p.2
theorem ckT_at {G : Pg} {sts : List Stmt} (h : ckT G sts = true) {i : Nat} {d : Df} (hd : G.T[i]? = some d) : ∃ st, sts[i]? = some st ∧ nameOf st = d.name ∧ ckF G d st = true := by
  unfold ckT at h
  rw [Bool.and_eq_true, decide_eq_true_eq] at h
  obtain ⟨h1, h2⟩ := h
  have hi := (List.getElem?_eq_some_iff.mp hd).1
  have hs : sts[i]? = some (sts[i]'(by omega)) := List.getElem?_eq_getElem (by omega)
  have hz : (List.zip G.T sts)[i]? = some (d, sts[i]'(by omega)) := by
    rw [List.getElem?_zip_eq_some]
    exact ⟨hd, hs⟩
  have q := List.all_eq_true.mp h2 _ (List.mem_of_getElem? hz)
  rw [Bool.and_eq_true, decide_eq_true_eq] at q
  exact ⟨_, hs, q.1, q.2⟩
/-- the getter of a property -/
def gtAd (K : Fg) (c m : Str) : Addr := match PySem.W.recIn K (He.ma K (cad K c) m) "property" with
  | some (.ref g :: _) => g
  | _ => 0
/-- where a def lies -/
def adOf (K : Fg) (d : Df) : Addr := match d.cls with
  | none => He.ga K d.name
  | some c => if d.prp = true then gtAd K c d.name else He.ma K (cad K c) d.name
def adAt (T : List Df) (K : Fg) (i : Nat) : Addr := (T[i]?).elim 0 (adOf K)
theorem adAt_of {T : List Df} {K : Fg} {i : Nat} {d : Df} (h : T[i]? = some d) : adAt T K i = adOf K d := by
  unfold adAt
  rw [h]
  rfl
abbrev DefV : Type := Option (Str × Str × Arguments × FuncBody × Scope × Addr × List (Str × Addr) × Addr)
def seeF (K : Fg) (a : Addr) : DefV := match K.lookup a with
  | some ⟨_, _, .func z, _⟩ => some (z.name, z.qualname, z.params, z.body, z.scope, z.globals, z.closure, z.builtins)
  | _ => none
def dueF (p : Df × Stmt) : DefV := some (p.1.name, p.1.qual, defArgs p.2, .stmts (defBody p.2), defScope p.2, mainGlobals, [], builtinsNs)
def isNoneV : Value → Bool
  | .none => true
  | _ => false
def okF (K : Fg) (a : Addr) (q : Str) : Bool := PySem.W.keepIn K (.ref a) && (match K.lookup a with
  | some ⟨_, _, .func z, _⟩ => PySem.W.codeIn K z.code q && isNoneV z.defaults
  | _ => false)
theorem funD_of {K : Fg} {a : Addr} {p : Df × Stmt} (e : seeF K a = dueF p) (c : okF K a p.1.qual = true) : ∃ fd, FunD K p.1.name p.1.qual (defArgs p.2) (defBody p.2) (defScope p.2) [] [] a fd := by
  unfold okF at c
  rw [Bool.and_eq_true] at c
  obtain ⟨c1, c2⟩ := c
  unfold seeF at e
  unfold dueF at e
  cases lk : K.lookup a with
  | none => rw [lk] at e; cases e
  | some ob =>
    obtain ⟨w1, w2, dat, w4⟩ := ob
    rw [lk] at e c2
    cases dat with
    | func z =>
      obtain ⟨z1, z2, z3, z4, z5, z6, z7, z8, z9, z10, z11, z12, z13, z14, z15⟩ := z
      simp only [Option.some.injEq, Prod.mk.injEq] at e
      obtain ⟨g1, g2, g3, g4, g5, g6, g7, g8⟩ := e
      subst g1 g2 g3 g4 g5 g6 g7 g8
      simp only [Bool.and_eq_true] at c2
      obtain ⟨c3, c4⟩ := c2
      cases z8 with
      | none => exact ⟨_, ⟨w1, w2, .none, z9, z10, z11, z12, z13, z14, w4, rfl, lk, c3, .inl ⟨rfl, rfl⟩, .inl rfl⟩, c1⟩
      | _ => cases c4
    | _ => cases c2
/-- a property of a class -/
def okP (K : Fg) (T : List Df) (cn : Str) (q : Str × Nat) : Bool := He.eqO (PySem.W.findIn K (.ref (cad K cn)) q.1) (some (some (.ref (He.ma K (cad K cn) q.1)))) &&
  (decide (PySem.W.specialIn K (.ref (He.ma K (cad K cn) q.1)) "__get__" = some (some (.builtin "property.__get__"))) && (decide (PySem.W.takesIn K (.ref (He.ma K (cad K cn) q.1)) = some true) &&
    (match PySem.W.recIn K (He.ma K (cad K cn) q.1) "property" with
    | some (.ref z :: _) => decide (z = adAt T K q.2)
    | _ => false)))
theorem okP_of {K : Fg} {T : List Df} {cn : Str} {q : Str × Nat} (h : okP K T cn q = true) : ∃ pa, PropOf K (cad K cn) q.1 pa (adAt T K q.2) := by
  unfold okP at h
  simp only [Bool.and_eq_true, decide_eq_true_eq] at h
  obtain ⟨h1, h2, h3, h4⟩ := h
  refine ⟨_, He.eqO_ok h1, h2, h3, ?_⟩
  cases e : PySem.W.recIn K (He.ma K (cad K cn) q.1) "property" with
  | none => rw [e] at h4; cases h4
  | some l =>
    rw [e] at h4
    cases l with
    | nil => cases h4
    | cons v r =>
      cases v with
      | ref z => exact ⟨r, by rw [of_decide_eq_true h4]⟩
      | _ => cases h4
def okC (K : Fg) (T : List Df) (cd : Cd) : Bool := (He.Fa.cls cd.name).ok K && ((cd.flds.all fun f => (He.Fa.noat cd.name f).ok K) && ((cd.mets.all fun q => (He.Fa.meth cd.name q.1).ok K && decide (He.ma K (cad K cd.name) q.1 = adAt T K q.2)) &&
  ((cd.prps.all fun q => okP K T cd.name q) && (match cd.init with
  | none => true
  | some i => (He.Fa.mkr cd.name).ok K && ((He.Fa.glo cd.name).ok K && decide (He.ma K (cad K cd.name) "__init__" = adAt T K i))))))
theorem okC_of {K : Fg} {h : Heap} {mg : Str → Option Value} (X : K.In h) (G : h.Ns mainGlobals mg) {T : List Df} {cd : Cd} (c : okC K T cd = true) : ClsK K mg (adAt T K) cd := by
  unfold okC at c
  simp only [Bool.and_eq_true, List.all_eq_true] at c
  obtain ⟨c1, c2, c3, c4, c5⟩ := c
  refine ⟨He.cls_ok c1, fun f hf => He.noat_ok (c2 f hf), fun q hq => ?_, fun q hq => okP_of (c4 q hq), fun i hi => ?_⟩
  · obtain ⟨a, b⟩ := c3 q hq
    rw [← of_decide_eq_true b]
    exact He.meth_ok a
  · rw [hi] at c5
    simp only [Bool.and_eq_true] at c5
    obtain ⟨a, b, d⟩ := c5
    rw [← of_decide_eq_true d]
    exact ⟨He.mkr_ok a, He.glo_ok X G b⟩
/-- all that the head must tell -/
def facts (G : Pg) : List He.Fa := ((G.T.filter fun d => decide (d.cls = none)).map fun d => .glo d.name) ++ (bltNames.map He.Fa.free ++ (G.ks.map (fun p => He.Fa.int p.1 p.2) ++ G.ss.map fun p => He.Fa.str p.1 p.2))
abbrev AlX : Type := Bool × List DefV
def obsX (G : Pg) (K : Fg) : AlX := (((facts G).all fun f => f.ok K) && ((G.T.all fun d => okF K (adOf K d) d.qual) && G.cs.all fun cd => okC K G.T cd), G.T.map fun d => seeF K (adOf K d))
def valX (G : Pg) (sts : List Stmt) : AlX := (true, (List.zip G.T sts).map dueF)
def SaysX (G : Pg) (sts : List Stmt) (K : Fg) : Prop := obsX G K = valX G sts
def obsXG (n : Nat) (G : Pg) (g : Addr → Option Obj) : AlX := obsX G (He.frG g (He.asD g n))
def hookX (n : Nat) (G : Pg) (sts : List Stmt) : PySem.W.Hook where
  α := AlX
  obs := fun s => obsXG n G s.heap.get?
  val := fun _ => valX G sts
  says := fun _ h => ∃ K : Fg, K.In h ∧ SaysX G sts K
  of := fun _ _ e => ⟨_, He.frG_in, e⟩
  keeps := fun _ _ _ ⟨K, hK, c⟩ k => ⟨K, PySem.W.Frag.In.keeps hK k, c⟩
theorem obsXG_eq {n : Nat} {G : Pg} {sts : List Stmt} {g : Addr → Option Obj} {s : Shared} (h : ∀ a, g a = s.heap.get? a) : obsXG n G g = (hookX n G sts).obs s := by
  rw [show g = s.heap.get? from funext h]
  rfl
section
variable {G : Pg} {sts : List Stmt} {K : Fg}
theorem SaysX.parts (c : SaysX G sts K) : (∀ f ∈ facts G, f.ok K = true) ∧ (∀ d ∈ G.T, okF K (adOf K d) d.qual = true) ∧ (∀ cd ∈ G.cs, okC K G.T cd = true) ∧ (G.T.map fun d => seeF K (adOf K d)) = (List.zip G.T sts).map dueF := by
  have c1 : (((facts G).all fun f => f.ok K) && ((G.T.all fun d => okF K (adOf K d) d.qual) && G.cs.all fun cd => okC K G.T cd)) = true := congrArg (fun z : AlX => z.1) c
  have c2 := congrArg (fun z : AlX => z.2) c
  simp only [Bool.and_eq_true, List.all_eq_true] at c1
  exact ⟨c1.1, c1.2.1, c1.2.2, c2⟩
theorem opt_inj {α : Type} {a b : α} (h : some a = some b) : a = b := by injection h
theorem vref_inj {a b : Addr} (h : (some (Value.ref a) : Option Value) = some (Value.ref b)) : a = b := by
  injection h with h
  injection h
theorem hglo_of {h : Heap} {mg : Str → Option Value} (X : K.In h) (Gn : h.Ns mainGlobals mg) (c : SaysX G sts K) {i : Nat} {d : Df} (hd : G.T[i]? = some d) (hc : d.cls = none) : mg d.name = some (.ref (adAt G.T K i)) := by
  have q := c.parts.1 (.glo d.name) (List.mem_append_left _ (List.mem_map.mpr ⟨d, List.mem_filter.mpr ⟨List.mem_of_getElem? hd, decide_eq_true hc⟩, rfl⟩))
  rw [adAt_of hd]
  unfold adOf
  rw [hc]
  exact He.glo_ok X Gn q
theorem hfree_of {h : Heap} {mg : Str → Option Value} (X : K.In h) (Gn : h.Ns mainGlobals mg) (c : SaysX G sts K) : ∀ x ∈ bltNames, mg x = none := fun x hx =>
  He.free_ok X Gn (c.parts.1 (.free x) (List.mem_append_right _ (List.mem_append_left _ (List.mem_map.mpr ⟨x, hx, rfl⟩))))
theorem hint_of {h : Heap} {mg : Str → Option Value} (X : K.In h) (Gn : h.Ns mainGlobals mg) (c : SaysX G sts K) : ∀ p ∈ G.ks, ∃ t, mg p.1 = some (.int p.2 t) := fun p hp =>
  He.int_ok X Gn (c.parts.1 (.int p.1 p.2) (List.mem_append_right _ (List.mem_append_right _ (List.mem_append_left _ (List.mem_map.mpr ⟨p, hp, rfl⟩)))))
theorem hstr_of {h : Heap} {mg : Str → Option Value} (X : K.In h) (Gn : h.Ns mainGlobals mg) (c : SaysX G sts K) : ∀ p ∈ G.ss, ∃ t, mg p.1 = some (.str p.2 t) := fun p hp =>
  He.str_ok X Gn (c.parts.1 (.str p.1 p.2) (List.mem_append_right _ (List.mem_append_right _ (List.mem_append_right _ (List.mem_map.mpr ⟨p, hp, rfl⟩)))))
theorem hdef_of (ck : ckT G sts = true) (c : SaysX G sts K) : ∃ fd : Nat → FuncData, ∀ (i : Nat) (d : Df), G.T[i]? = some d → ∃ st, sts[i]? = some st ∧ FunD K d.name d.qual (defArgs st) (defBody st) (defScope st) [] [] (adAt G.T K i) (fd i) ∧ ckF G d st = true := by
  have Fi : ∀ i : Nat, ∃ fd : FuncData, ∀ d : Df, G.T[i]? = some d → ∃ st, sts[i]? = some st ∧ FunD K d.name d.qual (defArgs st) (defBody st) (defScope st) [] [] (adAt G.T K i) fd ∧ ckF G d st = true := fun i => by
    rcases hd : G.T[i]? with _ | d
    · exact ⟨⟨"", "", ⟨[], [], none, [], [], none, []⟩, .stmts [], ⟨.function, [], false, false, []⟩, 0, [], .none, .none, .none, .none, none, .none, .none, 0⟩, fun d h => by cases h⟩
    · obtain ⟨st, hs, e1, e2⟩ := ckT_at ck hd
      have hz : (List.zip G.T sts)[i]? = some (d, st) := by
        rw [List.getElem?_zip_eq_some]
        exact ⟨hd, hs⟩
      have c4 := c.parts.2.2.2
      have e3 : (G.T.map fun d => seeF K (adOf K d))[i]? = ((List.zip G.T sts).map dueF)[i]? := by rw [c4]
      rw [List.getElem?_map, List.getElem?_map, hd, hz] at e3
      obtain ⟨fd, F⟩ := funD_of (p := (d, st)) (opt_inj e3) (c.parts.2.1 d (List.mem_of_getElem? hd))
      refine ⟨fd, fun d' h1 => ?_⟩
      have e := opt_inj h1
      subst e
      exact ⟨st, hs, by rw [adAt_of hd]; exact F, e2⟩
  exact ⟨fun i => Classical.choose (Fi i), fun i => Classical.choose_spec (Fi i)⟩
end
theorem rl_ints {K : Fg} {H : Hp} : ∀ l : List Int, RelL K H (l.map V.int) (l.map U.int)
  | [] => RelL.nil
  | i :: l => RelL.cons (Rel.int i) (rl_ints l)
theorem rl_arg {K : Fg} {H : Hp} {a : Addr} {xs : List V} (hO : Only H) (hS : SqL K H a xs) : Rl K H a xs := by
  rcases hS with hS | hS
  · rcases hS with hS | ⟨o, hS⟩
    · rcases hO a with z | ⟨o, xs, z⟩
      · rw [hS] at z; cases z
      · rw [hS] at z; cases z
    · exact .inl ⟨o, hS⟩
  · exact .inr hS
theorem law_ok {P : Program} {wd : World} {K : Fg} {h : Heap} {mg : Str → Option Value} {f : Addr} {G : Pg} {sts : List Stmt} {n : Nat} {k : Nat} {dl : Df} (ck : ckT G sts = true) (hb : ∀ (i : Nat) (d : Df) (st : Stmt), G.T[i]? = some d → sts[i]? = some st → BindP d.name d.qual st d.ps)
    (hn : G.T[n]? = some dl) (hps : dl.ps = ([("script" : Str)] : List Str)) (hname : dl.name = "law") (hcl : dl.cls = none) (X : K.In h) (Gn : h.Ns mainGlobals mg) (hfa : mg ("law" : Str) = some (.ref f)) (c : SaysX G sts K)
    (hlaw : ∀ ns : List Int, ns.length ≤ 63 → Cs G.T k n [.rol (ns.map U.int)] (fun _ => none) (fun u _ => u = .bl true)) :
    ∃ (fd : FuncData) (sp : Sp), (∀ (s : Shared) (v : Value), BindsTo s fd ⟨[v], []⟩ [("script", v)]) ∧
      (∀ (H : Hp) (a : Addr) (ns : List Int), ns.length ≤ 63 → Only H → SqL K H a (ns.map V.int) → sp [.ref a] H (fun v _ => v = .bl true) fun _ _ _ => False) ∧
      ∀ base : Heap, K.In base → base.Ns mainGlobals mg → FnOk P wd K mg base CX0 (2 * k) f fd ["script"] sp := by
  obtain ⟨fd, hfd⟩ := hdef_of ck c
  have F := fun base => fn_ok (P := P) (wd := wd) (base := base) (G := G) (fa := adAt G.T K) (fd := fd) (K := K) (mg := mg) (fun i d hd => by
      obtain ⟨st, hs, e1, e2⟩ := hfd i d hd
      exact ⟨st, e1, e2, hb i d st hd hs⟩) (fun i d hd hc => hglo_of X Gn c hd hc) (hfree_of X Gn c) (fun cd hcd => okC_of X Gn (c.parts.2.2.1 cd hcd)) (hint_of X Gn c) (hstr_of X Gn c) k n dl hn
  have ef : adAt G.T K n = f := by
    have q := hglo_of X Gn c hn hcl
    rw [hname, hfa] at q
    exact (vref_inj q).symm
  obtain ⟨st, hs, e1, e2⟩ := hfd n dl hn
  have hbn := hb n dl st hn hs
  refine ⟨fd n, spOf K (Cs G.T k n), ?_, fun H a ns hl hO hS => ?_, fun base _ _ => ?_⟩
  · intro s v
    have q := e1.bindsA hbn s [v] (by rw [hps]; exact Eq.refl 1)
    rw [hps] at q
    exact q
  · have S0 : Sim K H (fun _ => none) := fun a o e => by exact absurd e (fun z => by cases z)
    have R0 : RelL K H [V.ref a] [U.rol (ns.map U.int)] := RelL.cons (Rel.rol (rl_arg hO hS) (rl_ints ns)) RelL.nil
    have C0 : Cont K H (fun _ => none) (fun u _ => u = U.bl true) (fun v _ => v = V.bl true) := fun v H2 u M2 _ _ (r : Rel K H2 v u) (e : u = .bl true) => by
      subst e
      cases r
      rfl
    exact ⟨[U.rol (ns.map U.int)], fun _ => none, fun u _ => u = U.bl true, S0, R0, hlaw ns hl, C0⟩
  · have q := F base
    rw [ef, hps] at q
    exact q
end Pl

set_option maxHeartbeats 400000
/-! tools to work with what is asked: one step each -/
namespace Pl
open PySem L2
theorem Sub.refl (M : Hm) : Sub M M := fun _ _ h => h
theorem Sub.trans {A B C : Hm} (h : Sub A B) (g : Sub B C) : Sub A C := fun a o e => g a o (h a o e)
theorem sub_um {A B : Hm} {p : Addr} {o : MO} (h : Sub A B) (hp : A p = none) : Sub A (um B p o) := fun a o' e => by
  by_cases q : a = p
  · subst q; rw [hp] at e; cases e
  · rw [um_ne q]; exact h a o' e
theorem sub_um2 {A B : Hm} {p : Addr} {o : MO} (h : Sub A B) : Sub (um A p o) (um B p o) := fun a o' e => by
  by_cases q : a = p
  · subst q; rw [um_same] at e ⊢; exact e
  · rw [um_ne q] at e ⊢; exact h a o' e
theorem um_old {M : Hm} {p a : Addr} {o o' : MO} (hp : M p = some o') (ha : M a = none) : um M a o p = some o' := by
  rw [um_ne]
  · exact hp
  · intro e; subst e; rw [hp] at ha; cases ha
theorem um_oth {M : Hm} {p a : Addr} {o : MO} {r : Option MO} (h : p ≠ a) (hp : M p = r) : um M a o p = r := by
  rw [um_ne h]; exact hp
theorem um_none {M : Hm} {p a : Addr} {o : MO} (h : um M a o p = none) : M p = none := by
  by_cases q : p = a
  · subst q; rw [um_same] at h; cases h
  · rw [um_ne q] at h; exact h
theorem um_noneN {M : Hm} {p a : Addr} {o : MO} (h : um M a o p = none) : p ≠ a := fun q => by
  subst q; rw [um_same] at h; cases h
/-- a new thing, seen from before -/
theorem sub_new {A B : Hm} {p : Addr} {o : MO} (h : Sub A B) (hp : B p = none) : Sub A (um B p o) := fun a o' e => um_old (h a o' e) hp
theorem ne_of_old {M : Hm} {p a : Addr} {o : MO} (hp : M p = some o) (ha : M a = none) : p ≠ a := fun e => by
  subst e; rw [hp] at ha; cases ha
theorem ne_of_old' {M : Hm} {p a : Addr} {o : MO} (hp : M p = some o) (ha : M a = none) : a ≠ p := fun e => by
  subst e; rw [hp] at ha; cases ha
section
variable {C : CE} {σ : SU} {M : Hm} {Q : QU} {T : Bool → Hm → Prop} {L : List U → Hm → Prop} {I : List U → (Hm → Prop) → ((Hm → Prop) → Hm → Prop) → Hm → Prop} {a b c d es : E} {i : Nat}
/-! ifs -/
theorem i_ift {A B : Prop} {k : Bool} (h : k = true) (q : A) : if k = true then A else B := by rw [if_pos h]; exact q
theorem i_iff {A B : Prop} {k : Bool} (h : k = false) (q : B) : if k = true then A else B := by rw [if_neg (by rw [h]; decide)]; exact q
theorem i_ifn {A B : Prop} {k : Bool} (q : if k = true then B else A) : if (!k) = true then A else B := by cases k <;> exact q
theorem i_ifd {A B P : Prop} {inst : Decidable P} (h1 : P → A) (h2 : ¬P → B) : if @decide P inst = true then A else B := by
  by_cases h : P
  · exact i_ift (@decide_eq_true P inst h) (h1 h)
  · exact i_iff (@decide_eq_false P inst h) (h2 h)
theorem i_ifdt {A B P : Prop} {inst : Decidable P} (h : P) (q : A) : if @decide P inst = true then A else B := i_ift (@decide_eq_true P inst h) q
theorem i_ifdf {A B P : Prop} {inst : Decidable P} (h : ¬P) (q : B) : if @decide P inst = true then A else B := i_iff (@decide_eq_false P inst h) q
theorem i_ifb {A B : Prop} {k : Bool} (h1 : k = true → A) (h2 : k = false → B) : if k = true then A else B := by
  cases k
  · exact i_iff rfl (h2 rfl)
  · exact i_ift rfl (h1 rfl)
theorem cmul_l {i j : Int} (h : -18446744073709551616 < i) (h2 : i < 18446744073709551616) : CMul i j := .inl ⟨h, h2⟩
theorem cmul_r {i j : Int} (h : -18446744073709551616 < j) (h2 : j < 18446744073709551616) : CMul i j := .inr ⟨h, h2⟩
theorem i_le {n : Nat} {R : Prop} (h : n ≤ LIM) (q : R) : n ≤ LIM ∧ R := ⟨h, q⟩
theorem i_lt {n : Nat} {R : Prop} (h : n < LIM) (q : R) : n < LIM ∧ R := ⟨h, q⟩
/-- what several ways come to -/
structure Hold (R : Prop) : Prop where
  out : R
theorem rest_of {R G : Prop} (f : Hold R → G) (k : R) : G := f ⟨k⟩
/-! values -/
theorem i_var {u : U} (h : σ[i]? = some (some u)) (q : Q u M) : (w C (.var i)).e σ M Q := ⟨u, h, q⟩
theorem i_int {i : Int} (q : Q (.int i) M) : (w C (.int i)).e σ M Q := q
theorem i_str {i : Str} (q : Q (.str i) M) : (w C (.str i)).e σ M Q := q
theorem i_bl {i : Bool} (q : Q (.bl i) M) : (w C (.bl i)).e σ M Q := q
theorem i_non (q : Q .non M) : (w C .non).e σ M Q := q
theorem i_nil (q : L [] M) : (w C .nil).l σ M L := q
theorem i_cons (q : (w C a).e σ M fun x M1 => (w C b).l σ M1 fun xs M2 => L (x :: xs) M2) : (w C (.cons a b)).l σ M L := q
theorem i_tup (q : (w C es).l σ M fun xs M1 => xs.length ≤ LIM ∧ Q (.tup xs) M1) : (w C (.tup es)).e σ M Q := q
theorem i_dtup (q : (w C es).l σ M fun xs M1 => xs.length ≤ LIM ∧ Q (.dtp xs) M1) : (w C (.dtup es)).e σ M Q := q
theorem i_lst (q : (w C es).l σ M fun xs M1 => xs.length ≤ LIM ∧ ∀ p, M1 p = none → Q (.ref p) (um M1 p (.lst xs))) : (w C (.lst es)).e σ M Q := q
theorem i_dnew {t : Bool} (q : ∀ p, M p = none → Q (.ref p) (um M p (.dct false t []))) : (w C (.dnew t)).e σ M Q := q
theorem i_bin {op : Bop} (q : (w C a).e σ M fun x M1 => (w C b).e σ M1 fun y M2 => binW op x y M2 Q) : (w C (.bin op a b)).e σ M Q := q
theorem i_neg (q : (w C a).e σ M fun x M1 => ∃ i, x = .int i ∧ Q (.int (-i)) M1) : (w C (.neg a)).e σ M Q := q
theorem i_neg2 {j : Int} (q : Q (.int (-j)) M) : ∃ i, U.int j = .int i ∧ Q (.int (-i)) M := ⟨j, rfl, q⟩
theorem i_cmp {op : Cop} (q : (w C a).e σ M fun x M1 => (w C b).e σ M1 fun y M2 => cmpW op x y M2 fun k M3 => Q (.bl k) M3) : (w C (.cmp op a b)).e σ M Q := q
theorem i_chain {o p : Cop} (q : (w C a).e σ M fun x M1 => (w C b).e σ M1 fun y M2 => cmpW o x y M2 fun k M3 => if k = true then (w C c).e σ M3 fun z M4 => cmpW p y z M4 fun k M5 => Q (.bl k) M5 else Q (.bl false) M3) : (w C (.chain o p a b c)).e σ M Q := q
theorem i_isN (q : (w C a).e σ M fun x M1 => Q (.bl (decide (x = .non))) M1) : (w C (.isN a)).e σ M Q := q
theorem i_notN (q : (w C a).e σ M fun x M1 => Q (.bl (!decide (x = .non))) M1) : (w C (.notN a)).e σ M Q := q
theorem i_isB {b : Bool} (q : (w C a).e σ M fun x M1 => ∃ c, x = .bl c ∧ Q (.bl (decide (c = b))) M1) : (w C (.isB false b a)).e σ M Q := q
theorem i_isNB {b : Bool} (q : (w C a).e σ M fun x M1 => ∃ c, x = .bl c ∧ Q (.bl (!decide (c = b))) M1) : (w C (.isB true b a)).e σ M Q := q
theorem i_ands (q : (w C es).va σ M Q) : (w C (.ands es)).e σ M Q := q
theorem i_ors (q : (w C es).vo σ M Q) : (w C (.ors es)).e σ M Q := q
theorem i_not (q : bW (w C a).e σ M fun b M1 => Q (.bl (!b)) M1) : (w C (.not a)).e σ M Q := q
theorem i_bW {f : WE} (q : f σ M fun x M1 => ∃ b, x = .bl b ∧ T b M1) : bW f σ M T := q
theorem i_exB {b : Bool} {R : Bool → Prop} (q : R b) : ∃ c, U.bl b = .bl c ∧ R c := ⟨b, rfl, q⟩
theorem i_exI {j : Int} {R : Int → Prop} (q : R j) : ∃ c, U.int j = .int c ∧ R c := ⟨j, rfl, q⟩
theorem i_exII {j k : Int} {R : Int → Int → Prop} (q : R j k) : ∃ a b, U.int j = .int a ∧ U.int k = .int b ∧ R a b := ⟨j, k, rfl, rfl, q⟩
theorem i_ite (q : (w C c).t σ M fun k M1 => if k = true then (w C a).e σ M1 Q else (w C b).e σ M1 Q) : (w C (.ite c a b)).e σ M Q := q
theorem i_ix (q : (w C a).e σ M fun x M1 => (w C b).e σ M1 fun y M2 => ixW x y M2 Q) : (w C (.ix a b)).e σ M Q := q
theorem i_dget (q : (w C a).e σ M fun x M1 => isDW x M1 ∧ (w C b).e σ M1 fun y M2 => (w C c).e σ M2 fun v M3 => dgetW x y v M3 Q) : (w C (.dget a b c)).e σ M Q := q
theorem t_dget (q : (w C a).e σ M fun x M1 => isDW x M1 ∧ (w C b).e σ M1 fun y M2 => (w C c).e σ M2 fun v M3 => dgetW x y v M3 fun u M4 => truW u M4 T) : (w C (.dget a b c)).t σ M T := q
theorem i_isD {R : Prop} {p : Addr} {z t : Bool} {ks : List (U × U)} (hp : M p = some (.dct z t ks)) (q : R) : isDW (.ref p) M ∧ R := ⟨⟨p, z, t, ks, rfl, hp⟩, q⟩
theorem d_get {p : Addr} {z t : Bool} {ks : List (U × U)} {x v : U} (hp : M p = some (.dct z t ks)) (hk : keyFor t x = true) (q : Q ((dfind ks x).getD v) M) : dgetW (.ref p) x v M Q := ⟨p, z, t, ks, rfl, hp, hk, q⟩
theorem i_slice (q : (w C a).e σ M fun x M1 => partW b (w C b).e σ M1 fun l M2 => partW c (w C c).e σ M2 fun h M3 => sliceW x l h M3 Q) : (w C (.slice a b c)).e σ M Q := q
theorem i_part0 {f : WE} {O : Option Int → Hm → Prop} (q : O none M) : partW .nil f σ M O := q
theorem i_part1 {f : WE} {O : Option Int → Hm → Prop} (h : isNil a = false) (q : f σ M fun x M1 => ∃ i, x = .int i ∧ O (some i) M1) : partW a f σ M O := by
  unfold partW
  rw [if_neg (by rw [h]; decide)]
  exact q
theorem i_call {f : Nat} (q : (w C es).l σ M fun xs M1 => C f xs M1 Q) : (w C (.call f es)).e σ M Q := q
theorem i_blt {f : Bfn} (q : (w C es).l σ M fun xs M1 => bltW f xs M1 Q) : (w C (.blt f es)).e σ M Q := q
theorem i_mth {m : Mfn} (q : (w C a).e σ M fun x M1 => rcvW m x M1 ∧ (w C es).l σ M1 fun xs M2 => mthW m x xs M2 Q) : (w C (.mth m a es)).e σ M Q := q
theorem i_isinst {t : String} (q : (w C a).e σ M fun x M1 => isTyW x t M1 fun k M2 => Q (.bl k) M2) : (w C (.isinst a t)).e σ M Q := q
theorem i_compN {own : List (Str × Nat)} {tg : Tg} (q : (w C a).i σ M fun items g ex M1 => compL (fun x k M => tgW tg x (wipU σ tg.slots) fun σ2 => (w C c).e σ2 M fun y M3 => k (some y) M3) g (fun acc M => ex (fun M => ∀ p, M p = none → Q (.ref p) (um M p (.lst acc))) M) items [] M1) : (w C (.comp own tg a .nil c)).e σ M Q := by
  show compW _ _ _ _ _ _ _
  unfold compW
  simp only [isNil, if_true]
  exact q
theorem i_compC {own : List (Str × Nat)} {tg : Tg} (h : isNil b = false) (q : (w C a).i σ M fun items g ex M1 => compL (fun x k M => tgW tg x (wipU σ tg.slots) fun σ2 => (w C b).t σ2 M fun e M2 => if e = true then (w C c).e σ2 M2 fun y M3 => k (some y) M3 else k none M2) g (fun acc M => ex (fun M => ∀ p, M p = none → Q (.ref p) (um M p (.lst acc))) M) items [] M1) : (w C (.comp own tg a b c)).e σ M Q := by
  show compW _ _ _ _ _ _ _
  unfold compW
  simp only [h, Bool.false_eq_true, if_false]
  exact q
/-! tests -/
theorem t_var {u : U} (h : σ[i]? = some (some u)) (q : truW u M T) : (w C (.var i)).t σ M T := ⟨u, h, q⟩
theorem t_bl {i : Bool} (q : T i M) : (w C (.bl i)).t σ M T := q
theorem t_bin {op : Bop} (q : (w C a).e σ M fun x M1 => (w C b).e σ M1 fun y M2 => binW op x y M2 fun z M3 => truW z M3 T) : (w C (.bin op a b)).t σ M T := q
theorem t_ix (q : (w C a).e σ M fun x M1 => (w C b).e σ M1 fun y M2 => ixW x y M2 fun z M3 => truW z M3 T) : (w C (.ix a b)).t σ M T := q
theorem t_call {f : Nat} (q : (w C es).l σ M fun xs M1 => C f xs M1 fun z M2 => truW z M2 T) : (w C (.call f es)).t σ M T := q
theorem t_blt {f : Bfn} (q : (w C es).l σ M fun xs M1 => bltW f xs M1 fun z M2 => truW z M2 T) : (w C (.blt f es)).t σ M T := q
theorem t_cmp {op : Cop} (q : (w C a).e σ M fun x M1 => (w C b).e σ M1 fun y M2 => cmpW op x y M2 T) : (w C (.cmp op a b)).t σ M T := q
theorem t_chain {o p : Cop} (q : (w C a).e σ M fun x M1 => (w C b).e σ M1 fun y M2 => cmpW o x y M2 fun k M3 => if k = true then (w C c).e σ M3 fun z M4 => cmpW p y z M4 T else T false M3) : (w C (.chain o p a b c)).t σ M T := q
theorem t_isN (q : (w C a).e σ M fun x M1 => T (decide (x = .non)) M1) : (w C (.isN a)).t σ M T := q
theorem t_notN (q : (w C a).e σ M fun x M1 => T (!decide (x = .non)) M1) : (w C (.notN a)).t σ M T := q
theorem t_isB {b : Bool} (q : (w C a).e σ M fun x M1 => ∃ c, x = .bl c ∧ T (decide (c = b)) M1) : (w C (.isB false b a)).t σ M T := q
theorem t_isNB {b : Bool} (q : (w C a).e σ M fun x M1 => ∃ c, x = .bl c ∧ T (!decide (c = b)) M1) : (w C (.isB true b a)).t σ M T := q
theorem t_ands (q : (w C es).ta σ M T) : (w C (.ands es)).t σ M T := q
theorem t_ors (q : (w C es).to σ M T) : (w C (.ors es)).t σ M T := q
theorem t_not (q : (w C a).t σ M fun b M1 => T (!b) M1) : (w C (.not a)).t σ M T := q
theorem t_isinst {t : String} (q : (w C a).e σ M fun x M1 => isTyW x t M1 T) : (w C (.isinst a t)).t σ M T := q
theorem ta_1 (q : (w C a).t σ M T) : (w C (.cons a .nil)).ta σ M T := q
theorem ta_2 (q : (w C a).t σ M fun c M1 => if c = true then (w C (.cons b d)).ta σ M1 T else T false M1) : (w C (.cons a (.cons b d))).ta σ M T := q
theorem to_1 (q : (w C a).t σ M T) : (w C (.cons a .nil)).to σ M T := q
theorem to_2 (q : (w C a).t σ M fun c M1 => if c = true then T true M1 else (w C (.cons b d)).to σ M1 T) : (w C (.cons a (.cons b d))).to σ M T := q
theorem va_1 (q : (w C a).e σ M Q) : (w C (.cons a .nil)).va σ M Q := q
theorem va_2 (q : (w C a).e σ M fun x M1 => ∃ k, x = .bl k ∧ if k = true then (w C (.cons b d)).va σ M1 Q else Q (.bl false) M1) : (w C (.cons a (.cons b d))).va σ M Q := q
theorem vo_1 (q : (w C a).e σ M Q) : (w C (.cons a .nil)).vo σ M Q := q
theorem vo_2 (q : (w C a).e σ M fun x M1 => ∃ k, x = .bl k ∧ if k = true then Q (.bl true) M1 else (w C (.cons b d)).vo σ M1 Q) : (w C (.cons a (.cons b d))).vo σ M Q := q
/-! operations -/
theorem o_add {i j : Int} (q : Q (.int (i + j)) M) : binW .add (.int i) (.int j) M Q := q
theorem o_sub {i j : Int} (q : Q (.int (i - j)) M) : binW .sub (.int i) (.int j) M Q := q
theorem o_mul {i j : Int} (h : CMul i j) (q : Q (.int (i * j)) M) : binW .mul (.int i) (.int j) M Q := ⟨h, q⟩
theorem o_fdiv {i j : Int} (h : CDiv i j) (q : Q (.int (i / j)) M) : binW .fdiv (.int i) (.int j) M Q := ⟨h, q⟩
theorem o_mod {i j : Int} (h : 0 < j) (q : Q (.int (i % j)) M) : binW .mod (.int i) (.int j) M Q := ⟨h, q⟩
theorem o_pow {i j : Int} (h : CPow i j) (q : Q (.int (i ^ j.toNat)) M) : binW .pow (.int i) (.int j) M Q := ⟨h, q⟩
theorem o_shl {i j : Int} (h : CPow i j) (q : Q (.int (i * 2 ^ j.toNat)) M) : binW .shl (.int i) (.int j) M Q := ⟨h, q⟩
theorem o_addS {x y : Str} (h : x.length + y.length ≤ LIM) (q : Q (.str (x ++ y)) M) : binW .add (.str x) (.str y) M Q := ⟨h, q⟩
theorem o_addT {x y : List U} (h : x.length + y.length ≤ LIM) (q : Q (.tup (x ++ y)) M) : binW .add (.tup x) (.tup y) M Q := ⟨h, q⟩
theorem o_addL {p r : Addr} {us ws : List U} (hp : M p = some (.lst us)) (hr : M r = some (.lst ws)) (h : us.length + ws.length ≤ LIM) (q : ∀ a, M a = none → Q (.ref a) (um M a (.lst (us ++ ws)))) : binW .add (.ref p) (.ref r) M Q := ⟨us, ws, hp, hr, h, q⟩
theorem c_eq {x y : U} (q : eqW x y M T) : cmpW .eq x y M T := q
theorem c_ne {x y : U} (q : eqW x y M fun b M => T (!b) M) : cmpW .ne x y M T := q
theorem c_lt {i j : Int} (q : T (decide (i < j)) M) : cmpW .lt (.int i) (.int j) M T := q
theorem c_le {i j : Int} (q : T (decide (i ≤ j)) M) : cmpW .le (.int i) (.int j) M T := q
theorem c_gt {i j : Int} (q : T (decide (j < i)) M) : cmpW .gt (.int i) (.int j) M T := q
theorem c_ge {i j : Int} (q : T (decide (j ≤ i)) M) : cmpW .ge (.int i) (.int j) M T := q
theorem c_in {x y : U} (q : inW false x y M T) : cmpW .isin x y M T := q
theorem c_nin {x y : U} (q : inW true x y M T) : cmpW .notin x y M T := q
theorem eq_bl {a b : Bool} (q : T (decide (a = b)) M) : eqW (.bl a) (.bl b) M T := by
  have e : (a == b) = decide (a = b) := by cases a <;> cases b <;> rfl
  show T (a == b) M
  rw [e]; exact q
theorem eq_int {a b : Int} (q : T (decide (a = b)) M) : eqW (.int a) (.int b) M T := q
theorem eq_str {a b : Str} (q : T (decide (a = b)) M) : eqW (.str a) (.str b) M T := q
theorem eq_tup {a b : List U} (ha : okU (.tup a) = true) (hb : okU (.tup b) = true) (q : T (decide (U.tup a = U.tup b)) M) : eqW (.tup a) (.tup b) M T := ⟨ha, hb, q⟩
theorem eq_lst {p r : Addr} {us ws : List U} (hp : M p = some (.lst us)) (hr : M r = some (.lst ws)) (h1 : okL us = true) (h2 : okL ws = true) (q : T (decide (us = ws)) M) : eqW (.ref p) (.ref r) M T := ⟨us, ws, hp, hr, h1, h2, q⟩
theorem in_lst {x : U} {p : Addr} {us : List U} (hp : M p = some (.lst us)) (h1 : okU x = true) (h2 : okL us = true) (q : T (decide (x ∈ us)) M) : inW false x (.ref p) M T := .inl ⟨us, hp, h1, h2, q⟩
theorem nin_lst {x : U} {p : Addr} {us : List U} (hp : M p = some (.lst us)) (h1 : okU x = true) (h2 : okL us = true) (q : T (!decide (x ∈ us)) M) : inW true x (.ref p) M T := .inl ⟨us, hp, h1, h2, q⟩
theorem in_tup {x : U} {us : List U} (h1 : okU x = true) (h2 : okL us = true) (h3 : us.all isKey = true) (h4 : isKey x = true) (q : T (decide (x ∈ us)) M) : inW false x (.tup us) M T := ⟨h1, h2, ⟨h3, h4⟩, q⟩
theorem nin_tup {x : U} {us : List U} (h1 : okU x = true) (h2 : okL us = true) (h3 : us.all isKey = true) (h4 : isKey x = true) (q : T (!decide (x ∈ us)) M) : inW true x (.tup us) M T := ⟨h1, h2, ⟨h3, h4⟩, q⟩
theorem in_dct {z t : Bool} {x : U} {p : Addr} {ks : List (U × U)} (hp : M p = some (.dct z t ks)) (h1 : keyFor t x = true) (q : T (dfind ks x).isSome M) : inW false x (.ref p) M T := .inr ⟨z, t, ks, hp, h1, q⟩
theorem nin_dct {z t : Bool} {x : U} {p : Addr} {ks : List (U × U)} (hp : M p = some (.dct z t ks)) (h1 : keyFor t x = true) (q : T (!(dfind ks x).isSome) M) : inW true x (.ref p) M T := .inr ⟨z, t, ks, hp, h1, q⟩
theorem tr_bl {b : Bool} (q : T b M) : truW (.bl b) M T := q
theorem tr_int {i : Int} (q : T (!decide (i = 0)) M) : truW (.int i) M T := by
  have e : (i != 0) = !decide (i = 0) := rfl
  show T (i != 0) M
  rw [e]; exact q
theorem emp_dec {α : Type} (l : List α) [Decidable (l = [])] : l.isEmpty = decide (l = []) := by cases l <;> simp
theorem tr_tup {l : List U} (q : T (!decide (l = [])) M) : truW (.tup l) M T := by
  show T (!l.isEmpty) M
  rw [emp_dec]; exact q
theorem tr_non (q : T false M) : truW .non M T := q
theorem tr_lst {p : Addr} {us : List U} (hp : M p = some (.lst us)) (q : T (!decide (us = [])) M) : truW (.ref p) M T := .inl ⟨us, hp, by rw [emp_dec]; exact q⟩
theorem tr_dct {p : Addr} {ks : List (U × U)} (hp : M p = some (.dct false false ks)) (q : T (!decide (ks = [])) M) : truW (.ref p) M T := .inr ⟨ks, hp, by rw [emp_dec]; exact q⟩
theorem x_tup {l : List U} {j : Int} {v : U} (h : atI l j = some v) (q : Q v M) : ixW (.tup l) (.int j) M Q := ⟨j, v, rfl, h, q⟩
theorem x_lst {p : Addr} {us : List U} {j : Int} {v : U} (hp : M p = some (.lst us)) (h : atI us j = some v) (q : Q v M) : ixW (.ref p) (.int j) M Q := .inl ⟨us, j, v, hp, rfl, h, q⟩
theorem x_dct {p : Addr} {z t : Bool} {ks : List (U × U)} {x v : U} (hp : M p = some (.dct z t ks)) (hk : keyFor t x = true) (h : dfind ks x = some v) (q : Q v M) : ixW (.ref p) x M Q := .inr ⟨z, t, ks, v, hp, hk, h, q⟩
theorem g_lst {p : Addr} {us : List U} {j : Int} {v : U} (hp : M p = some (.lst us)) (h : atI us j = some v) (q : Q v M) : getW (.ref p) (.int j) M Q := .inl ⟨us, j, v, hp, rfl, h, q⟩
theorem g_dct {p : Addr} {z t : Bool} {ks : List (U × U)} {x v : U} (hp : M p = some (.dct z t ks)) (hk : keyFor t x = true) (h : dfind ks x = some v) (q : Q v M) : getW (.ref p) x M Q := .inr ⟨z, t, ks, v, hp, hk, h, q⟩
theorem sl_tup {l : List U} {x y : Option Int} (q : Q (.tup (cutU l x y)) M) : sliceW (.tup l) x y M Q := q
theorem sl_lst {p : Addr} {us : List U} {x y : Option Int} (hp : M p = some (.lst us)) (q : ∀ a, M a = none → Q (.ref a) (um M a (.lst (cutU us x y)))) : sliceW (.ref p) x y M Q := ⟨us, hp, q⟩
theorem st_lst {p : Addr} {us : List U} {j : Int} {k : Nat} {v : U} {R : Hm → Prop} (hp : M p = some (.lst us)) (h : ixN us.length j = some k) (q : R (um M p (.lst (us.set k v)))) : setW (.ref p) (.int j) v M R := .inl ⟨us, j, k, hp, rfl, h, q⟩
theorem st_dct {p : Addr} {t : Bool} {ks : List (U × U)} {x v : U} {R : Hm → Prop} (hp : M p = some (.dct false t ks)) (hk : keyFor t x = true) (hl : ks.length < LIM) (q : R (um M p (.dct false t (dput ks x v)))) : setW (.ref p) x v M R := .inr ⟨t, ks, hp, hk, hl, q⟩
theorem f_lenT {l : List U} (q : Q (.int l.length) M) : bltW .len [.tup l] M Q := q
theorem f_lenL {p : Addr} {us : List U} (hp : M p = some (.lst us)) (q : Q (.int us.length) M) : bltW .len [.ref p] M Q := .inl ⟨us, hp, q⟩
theorem f_lenD {p : Addr} {ks : List (U × U)} (hp : M p = some (.dct false false ks)) (q : Q (.int ks.length) M) : bltW .len [.ref p] M Q := .inr ⟨ks, hp, q⟩
theorem f_listT {l : List U} (q : ∀ a, M a = none → Q (.ref a) (um M a (.lst l))) : bltW .list [.tup l] M Q := q
theorem f_listL {p : Addr} {us : List U} (hp : M p = some (.lst us)) (q : ∀ a, M a = none → Q (.ref a) (um M a (.lst us))) : bltW .list [.ref p] M Q := .inl ⟨us, hp, q⟩
theorem f_listD {p : Addr} {ks : List (U × U)} (hp : M p = some (.dct false false ks)) (q : ∀ a, M a = none → Q (.ref a) (um M a (.lst (ks.map (·.1))))) : bltW .list [.ref p] M Q := .inr ⟨ks, hp, q⟩
theorem f_sortL {p : Addr} {us : List U} (hp : M p = some (.lst us)) (ok : sortOk us) (q : ∀ a, M a = none → Q (.ref a) (um M a (.lst (sortU us)))) : bltW .sorted [.ref p] M Q := .inl ⟨us, hp, ok, q⟩
theorem f_sortD {p : Addr} {t : Bool} {ks : List (U × U)} (hp : M p = some (.dct false t ks)) (ok : sortOk (ks.map (·.1))) (q : ∀ a, M a = none → Q (.ref a) (um M a (.lst (sortU (ks.map (·.1)))))) : bltW .sorted [.ref p] M Q := .inr ⟨t, ks, hp, ok, q⟩
theorem f_tupT {l : List U} (q : Q (.tup l) M) : bltW .tuple [.tup l] M Q := q
theorem f_tupL {p : Addr} {us : List U} (hp : M p = some (.lst us)) (q : Q (.tup us) M) : bltW .tuple [.ref p] M Q := ⟨us, hp, q⟩
theorem f_int {i : Int} (q : Q (.int i) M) : bltW .int [.int i] M Q := q
theorem f_intB {b : Bool} (q : Q (.int (if b then 1 else 0)) M) : bltW .int [.bl b] M Q := q
theorem f_abs {i : Int} (q : Q (.int (if i < 0 then -i else i)) M) : bltW .abs [.int i] M Q := q
theorem f_max {i j : Int} (q : Q (.int (if j > i then j else i)) M) : bltW .max [.int i, .int j] M Q := q
theorem f_min {i j : Int} (q : Q (.int (if j < i then j else i)) M) : bltW .min [.int i, .int j] M Q := q
theorem m_app {p : Addr} {us : List U} {x : U} (hp : M p = some (.lst us)) (hl : us.length < LIM) (q : Q .non (um M p (.lst (us ++ [x])))) : mthW .append (.ref p) [x] M Q := ⟨us, hp, hl, q⟩
theorem m_ext {p r : Addr} {us ws : List U} (hp : M p = some (.lst us)) (hr : M r = some (.lst ws)) (hl : us.length + ws.length ≤ LIM) (q : Q .non (um M p (.lst (us ++ ws)))) : mthW .extend (.ref p) [.ref r] M Q := ⟨us, ws, hp, hr, hl, q⟩
theorem m_pop {p : Addr} {us : List U} {x : U} (hp : M p = some (.lst us)) (hl : us[us.length - 1]? = some x) (q : Q x (um M p (.lst us.dropLast))) : mthW .pop (.ref p) [] M Q := ⟨us, x, hp, hl, q⟩
theorem m_popAt {p : Addr} {us : List U} {i : Int} {k : Nat} {x : U} (hp : M p = some (.lst us)) (hl : us.length ≤ LIM) (hi : ixN us.length i = some k) (hk : us[k]? = some x) (q : Q x (um M p (.lst (us.eraseIdx k)))) : mthW .popAt (.ref p) [.int i] M Q := ⟨us, k, x, hp, hl, hi, hk, q⟩
theorem m_index {p : Addr} {us : List U} {x : U} {j : Nat} (hp : M p = some (.lst us)) (h1 : okU x = true) (h2 : okL us = true) (h3 : us[j]? = some x) (h4 : ∀ m, m < j → us[m]? ≠ some x) (q : Q (.int (j : Nat)) M) : mthW .index (.ref p) [x] M Q := ⟨us, j, hp, h1, h2, h3, h4, q⟩
theorem i_rcvX {R : Prop} {p : Addr} {us : List U} (hp : M p = some (.lst us)) (q : R) : rcvW .index (.ref p) M ∧ R := ⟨⟨p, us, rfl, hp⟩, q⟩
theorem r_app {p : Addr} {us : List U} (hp : M p = some (.lst us)) : rcvW .append (.ref p) M := ⟨p, us, rfl, hp⟩
theorem r_ext {p : Addr} {us : List U} (hp : M p = some (.lst us)) : rcvW .extend (.ref p) M := ⟨p, us, rfl, hp⟩
theorem r_pop {p : Addr} {us : List U} (hp : M p = some (.lst us)) : rcvW .pop (.ref p) M := ⟨p, us, rfl, hp⟩
theorem r_popAt {p : Addr} {us : List U} (hp : M p = some (.lst us)) : rcvW .popAt (.ref p) M := ⟨p, us, rfl, hp⟩
theorem i_rcvA {R : Prop} {p : Addr} {us : List U} (hp : M p = some (.lst us)) (q : R) : rcvW .append (.ref p) M ∧ R := ⟨r_app hp, q⟩
theorem i_rcvE {R : Prop} {p : Addr} {us : List U} (hp : M p = some (.lst us)) (q : R) : rcvW .extend (.ref p) M ∧ R := ⟨r_ext hp, q⟩
theorem i_rcvP {R : Prop} {p : Addr} {us : List U} (hp : M p = some (.lst us)) (q : R) : rcvW .pop (.ref p) M ∧ R := ⟨r_pop hp, q⟩
theorem i_rcvQ {R : Prop} {p : Addr} {us : List U} (hp : M p = some (.lst us)) (q : R) : rcvW .popAt (.ref p) M ∧ R := ⟨r_popAt hp, q⟩
theorem y_non {t : String} (q : T (t == "NoneType") M) : isTyW .non t M T := q
theorem y_bl {t : String} {b : Bool} (q : T (t == "bool" || t == "int") M) : isTyW (.bl b) t M T := q
theorem y_int {t : String} {i : Int} (q : T (t == "int") M) : isTyW (.int i) t M T := q
theorem y_str {t : String} {x : Str} (q : T (t == "str") M) : isTyW (.str x) t M T := q
theorem y_tup {t : String} {l : List U} (q : T (t == "tuple") M) : isTyW (.tup l) t M T := q
theorem y_lst {t : String} {p : Addr} {us : List U} (hp : M p = some (.lst us)) (q : T (t == "list") M) : isTyW (.ref p) t M T := ⟨us, hp, q⟩
/-! what is walked -/
theorem w_seq (q : (w C a).e σ M fun x M1 => seqI x M1 I) : (w C (.iSeq a)).i σ M I := q
theorem w_rng (q : (w C a).e σ M fun x M1 => ∃ n, x = .int n ∧ n ≤ LIM ∧ -LIM ≤ n ∧ I (rngU 0 n) (fun _ => True) (fun P => P) M1) : (w C (.iRange a)).i σ M I := q
theorem w_rng2 (q : (w C a).e σ M fun x M1 => (w C b).e σ M1 fun y M2 => ∃ m n, x = .int m ∧ y = .int n ∧ -LIM ≤ m ∧ m ≤ LIM ∧ n ≤ LIM ∧ -LIM ≤ n ∧ I (rngU m n) (fun _ => True) (fun P => P) M2) : (w C (.iRange2 a b)).i σ M I := q
theorem w_enum (q : (w C a).e σ M fun x M1 => seqI x M1 fun us g ex M2 => I (enumU us) g ex M2) : (w C (.iEnum a)).i σ M I := q
theorem w_rev (q : (w C a).e σ M fun x M1 => revI x M1 I) : (w C (.iRev a)).i σ M I := q
theorem r_tup {l : List U} (q : I l.reverse (fun _ => True) (fun P => P) M) : revI (.tup l) M I := q
theorem r_dtp {l : List U} (q : I l.reverse (fun _ => True) (fun P => P) M) : revI (.dtp l) M I := q
theorem r_lst {p : Addr} {us : List U} (hp : M p = some (.lst us)) (q : I us.reverse (fun M' => M' p = some (.lst us)) (fun P => P) M) : revI (.ref p) M I := ⟨us, hp, q⟩
theorem s_tup {l : List U} (q : I l (fun _ => True) (fun P => P) M) : seqI (.tup l) M I := q
theorem s_rol {l : List U} (q : I l (fun _ => True) (fun P => P) M) : seqI (.rol l) M I := q
theorem s_lst {p : Addr} {us : List U} (hp : M p = some (.lst us)) (q : I us (fun M' => M' p = some (.lst us)) (fun P => P) M) : seqI (.ref p) M I := ⟨us, hp, q⟩
theorem w_keys {d : Addr} {t : Bool} {ks : List (U × U)} (h : σ[i]? = some (some (.ref d))) (hd : M d = some (.dct false t ks)) (q : I (ks.map (·.1)) (fun M' => M' d = some (.dct true t ks)) (fun P M' => M' d = some (.dct true t ks) ∧ P (um M' d (.dct false t ks))) (um M d (.dct true t ks))) : (w C (.iKeys (.var i))).i σ M I := ⟨i, d, t, ks, rfl, h, hd, q⟩
/-! statements -/
variable {nx : SU → Hm → Prop} {rt : QU} {bk ct : SU → Hm → Prop} {x y z : S}
theorem z_skip (q : nx σ M) : wS C .skip ⟨nx, rt, bk, ct⟩ σ M := q
theorem z_seq (q : wS C x ⟨wS C y ⟨nx, rt, bk, ct⟩, rt, bk, ct⟩ σ M) : wS C (.seq x y) ⟨nx, rt, bk, ct⟩ σ M := q
theorem z_asg (q : (w C a).e σ M fun x M1 => nx (σ.set i (some x)) M1) : wS C (.asg i a) ⟨nx, rt, bk, ct⟩ σ M := q
theorem z_asgT {is : List Nat} (q : (w C a).e σ M fun x M1 => ∃ l σ', x = .tup l ∧ setAll is l σ = some σ' ∧ nx σ' M1) : wS C (.asgT is a) ⟨nx, rt, bk, ct⟩ σ M := q
theorem z_asgT2 {is : List Nat} {l : List U} {σ' : SU} (h : setAll is l σ = some σ') (q : nx σ' M) : ∃ l' σ', U.tup l = .tup l' ∧ setAll is l' σ = some σ' ∧ nx σ' M := ⟨l, σ', rfl, h, q⟩
theorem z_setIx (q : (w C c).e σ M fun v M1 => (w C a).e σ M1 fun x M2 => (w C b).e σ M2 fun y M3 => setW x y v M3 (nx σ)) : wS C (.setIx a b c) ⟨nx, rt, bk, ct⟩ σ M := q
theorem z_augV {op : Bop} {x : Int} (h : σ[i]? = some (some (.int x))) (q : (w C a).e σ M fun y M1 => ∃ b, y = .int b ∧ binW op (.int x) (.int b) M1 fun z M2 => nx (σ.set i (some z)) M2) : wS C (.augV i op a) ⟨nx, rt, bk, ct⟩ σ M := ⟨_, h, by
  have e : ∀ y M1, (∃ b, y = .int b ∧ binW op (.int x) (.int b) M1 fun z M2 => nx (σ.set i (some z)) M2) = (∃ a b, U.int x = .int a ∧ y = .int b ∧ binW op (.int x) y M1 fun z M2 => nx (σ.set i (some z)) M2) := fun y M1 => propext ⟨fun ⟨b, e, q⟩ => ⟨x, b, rfl, e, by rw [e]; exact q⟩, fun ⟨a, b, _, e, q⟩ => ⟨b, e, by rw [e] at q; exact q⟩⟩
  simp only [e] at q
  exact q⟩
theorem z_augIx {op : Bop} (q : (w C a).e σ M fun x M1 => (w C b).e σ M1 fun y M2 => getW x y M2 fun v M3 => (w C c).e σ M3 fun z M4 => ∃ a b, v = .int a ∧ z = .int b ∧ binW op v z M4 fun r M5 => setW x y r M5 (nx σ)) : wS C (.augIx a b op c) ⟨nx, rt, bk, ct⟩ σ M := q
theorem z_ifs (q : (w C c).t σ M fun k M1 => if k = true then wS C x ⟨nx, rt, bk, ct⟩ σ M1 else wS C y ⟨nx, rt, bk, ct⟩ σ M1) : wS C (.ifs c x y) ⟨nx, rt, bk, ct⟩ σ M := q
theorem z_for {tg : Tg} (q : (w C a).i σ M fun items g ex M1 => forL (fun u k σ M => tgW tg u σ fun σ2 => wS C x ⟨k, fun u M => ex (rt u) M, fun σ M => ex (nx σ) M, k⟩ σ2 M) g (fun σ M => ex (nx σ) M) items σ M1) : wS C (.for_ tg a x) ⟨nx, rt, bk, ct⟩ σ M := q
theorem z_ret (q : (w C a).e σ M rt) : wS C (.ret a) ⟨nx, rt, bk, ct⟩ σ M := q
theorem z_retN (q : rt .non M) : wS C .retN ⟨nx, rt, bk, ct⟩ σ M := q
theorem z_brk (q : bk σ M) : wS C .brk ⟨nx, rt, bk, ct⟩ σ M := q
theorem z_cnt (q : ct σ M) : wS C .cnt ⟨nx, rt, bk, ct⟩ σ M := q
theorem z_expr (q : (w C a).e σ M fun _ M1 => nx σ M1) : wS C (.expr a) ⟨nx, rt, bk, ct⟩ σ M := q
theorem tg_one {u : U} {R : SU → Prop} (q : R (σ.set i (some u))) : tgW (.one i) u σ R := q
theorem tg_many {is : List Nat} {l : List U} {σ' : SU} {R : SU → Prop} (h : setAll is l σ = some σ') (q : R σ') : tgW (.many is) (.tup l) σ R := ⟨l, σ', rfl, h, q⟩
end
/-- a loop by what holds between: what is done, what is left -/
theorem forL_by {α : Type} {enc : α → U} {step : U → (SU → Hm → Prop) → SU → Hm → Prop} {g : Hm → Prop} {fin : SU → Hm → Prop} (I : List α → List α → SU → Hm → Prop) (l : List α) {σ : SU} {M : Hm} (h0 : I [] l σ M)
    (h1 : ∀ don x rest σ M (k : SU → Hm → Prop), don ++ x :: rest = l → I don (x :: rest) σ M → (∀ σ' M', g M' → I (don ++ [x]) rest σ' M' → k σ' M') → step (enc x) k σ M)
    (h2 : ∀ σ M, I l [] σ M → fin σ M) : forL step g fin (l.map enc) σ M := by
  suffices h : ∀ (rest don : List α) σ M, don ++ rest = l → I don rest σ M → forL step g fin (rest.map enc) σ M from h l [] σ M rfl h0
  intro rest
  induction rest with
  | nil =>
    intro don σ M e h
    rw [List.append_nil] at e
    subst e
    exact h2 σ M h
  | cons x rest ih =>
    intro don σ M e h
    exact h1 don x rest σ M _ e h fun σ' M' hg hi => ⟨hg, ih (don ++ [x]) σ' M' (by rw [List.append_assoc]; exact e) hi⟩
/-- a loop by enumerate -/
theorem forL_enum {α : Type} {enc : α → U} {step : U → (SU → Hm → Prop) → SU → Hm → Prop} {g : Hm → Prop} {fin : SU → Hm → Prop} (I : List α → List α → SU → Hm → Prop) (l : List α) {σ : SU} {M : Hm} (h0 : I [] l σ M)
    (h1 : ∀ don x rest σ M (k : SU → Hm → Prop), don ++ x :: rest = l → I don (x :: rest) σ M → (∀ σ' M', g M' → I (don ++ [x]) rest σ' M' → k σ' M') → step (.tup [.int (don.length : Nat), enc x]) k σ M)
    (h2 : ∀ σ M, I l [] σ M → fin σ M) : forL step g fin (enumU (l.map enc)) σ M := by
  suffices h : ∀ (rest don : List α) σ M, don ++ rest = l → I don rest σ M → forL step g fin (((rest.map enc).zipIdx don.length).map fun p => .tup [.int (p.2 : Nat), p.1]) σ M from h l [] σ M rfl h0
  intro rest
  induction rest with
  | nil =>
    intro don σ M e h
    rw [List.append_nil] at e
    subst e
    exact h2 σ M h
  | cons x rest ih =>
    intro don σ M e h
    rw [List.map_cons, List.zipIdx_cons, List.map_cons]
    refine h1 don x rest σ M _ e h fun σ' M' hg hi => ⟨hg, ?_⟩
    have := ih (don ++ [x]) σ' M' (by rw [List.append_assoc]; exact e) hi
    rwa [List.length_append] at this
theorem compL_by {α : Type} {enc : α → U} {step : U → (Option U → Hm → Prop) → Hm → Prop} {g : Hm → Prop} {fin : List U → Hm → Prop} (I : List α → List α → List U → Hm → Prop) (l : List α) {acc : List U} {M : Hm} (h0 : I [] l acc M)
    (h1 : ∀ don x rest acc M (k : Option U → Hm → Prop), don ++ x :: rest = l → I don (x :: rest) acc M → (∀ o M', g M' → (o.isSome = true → acc.length < LIM) → I (don ++ [x]) rest (acc ++ o.toList) M' → k o M') → step (enc x) k M)
    (h2 : ∀ acc M, I l [] acc M → fin acc M) : compL step g fin (l.map enc) acc M := by
  suffices h : ∀ (rest don : List α) acc M, don ++ rest = l → I don rest acc M → compL step g fin (rest.map enc) acc M from h l [] acc M rfl h0
  intro rest
  induction rest with
  | nil =>
    intro don acc M e h
    rw [List.append_nil] at e
    subst e
    exact h2 acc M h
  | cons x rest ih =>
    intro don acc M e h
    exact h1 don x rest acc M _ e h fun o M' hg hl hi => ⟨hg, hl, ih (don ++ [x]) _ M' (by rw [List.append_assoc]; exact e) hi⟩
end Pl

set_option maxHeartbeats 400000
/-! steps for instances and their like -/
namespace Pl
open PySem L2
section
variable {C : CE} {σ : SU} {M : Hm} {Q : QU} {T : Bool → Hm → Prop} {L : List U → Hm → Prop} {a b c d es : E} {i : Nat}
theorem i_fld {f : Str} (q : (w C a).e σ M fun x M1 => ∃ p c fs v, x = .ref p ∧ M1 p = some (.obj c fs) ∧ fs.lookup f = some v ∧ Q v M1) : (w C (.fld f a)).e σ M Q := q
theorem t_fld {f : Str} (q : (w C a).e σ M fun x M1 => ∃ p c fs v, x = .ref p ∧ M1 p = some (.obj c fs) ∧ fs.lookup f = some v ∧ truW v M1 T) : (w C (.fld f a)).t σ M T := q
theorem i_isF {f cn : Str} {p : Addr} {fs : List (Str × U)} {v : U} {R : U → Prop} (hp : M p = some (.obj cn fs)) (hl : fs.lookup f = some v) (q : R v) : ∃ p' c' fs' v', U.ref p = .ref p' ∧ M p' = some (.obj c' fs') ∧ fs'.lookup f = some v' ∧ R v' := ⟨p, cn, fs, v, rfl, hp, hl, q⟩
theorem i_meth {cn m : Str} {f : Nat} (q : (w C a).e σ M fun x M1 => (∃ p fs, x = .ref p ∧ M1 p = some (.obj cn fs) ∧ fs.lookup m = none) ∧ (w C es).l σ M1 fun xs M2 => C f (x :: xs) M2 Q) : (w C (.meth cn m f a es)).e σ M Q := q
theorem t_meth {cn m : Str} {f : Nat} (q : (w C a).e σ M fun x M1 => (∃ p fs, x = .ref p ∧ M1 p = some (.obj cn fs) ∧ fs.lookup m = none) ∧ (w C es).l σ M1 fun xs M2 => C f (x :: xs) M2 fun u M3 => truW u M3 T) : (w C (.meth cn m f a es)).t σ M T := q
theorem i_isO {cn m : Str} {R : Prop} {p : Addr} {fs : List (Str × U)} (hp : M p = some (.obj cn fs)) (hl : fs.lookup m = none) (q : R) : (∃ p' fs', U.ref p = .ref p' ∧ M p' = some (.obj cn fs') ∧ fs'.lookup m = none) ∧ R := ⟨⟨p, fs, rfl, hp, hl⟩, q⟩
theorem i_make {cn : Str} {f : Nat} (q : (w C es).l σ M fun xs M1 => ∀ p, M1 p = none → C f (.ref p :: xs) (um M1 p (.obj cn [])) fun u M2 => u = .non ∧ Q (.ref p) M2) : (w C (.make cn f es)).e σ M Q := q
theorem i_prop {cn m : Str} {f : Nat} (q : (w C a).e σ M fun x M1 => (∃ p fs, x = .ref p ∧ M1 p = some (.obj cn fs)) ∧ C f [x] M1 Q) : (w C (.prop cn m f a)).e σ M Q := q
theorem t_prop {cn m : Str} {f : Nat} (q : (w C a).e σ M fun x M1 => (∃ p fs, x = .ref p ∧ M1 p = some (.obj cn fs)) ∧ C f [x] M1 fun u M3 => truW u M3 T) : (w C (.prop cn m f a)).t σ M T := q
theorem i_isQ {cn : Str} {R : Prop} {p : Addr} {fs : List (Str × U)} (hp : M p = some (.obj cn fs)) (q : R) : (∃ p' fs', U.ref p = .ref p' ∧ M p' = some (.obj cn fs')) ∧ R := ⟨⟨p, fs, rfl, hp⟩, q⟩
theorem i_setdef (q : (w C a).e σ M fun x M1 => isDW x M1 ∧ (w C b).e σ M1 fun y M2 => (w C c).e σ M2 fun v M3 => setdefW x y v M3 Q) : (w C (.setdef a b c)).e σ M Q := q
theorem sd_old {p : Addr} {ks : List (U × U)} {y v u : U} (hp : M p = some (.dct false false ks)) (hk : isKey y = true) (hl : ks.length < LIM) (h : dfind ks y = some u) (q : Q u M) : setdefW (.ref p) y v M Q := ⟨p, ks, rfl, hp, hk, hl, by rw [h]; exact q⟩
theorem sd_new {p : Addr} {ks : List (U × U)} {y v : U} (hp : M p = some (.dct false false ks)) (hk : isKey y = true) (hl : ks.length < LIM) (h : dfind ks y = none) (q : Q v (um M p (.dct false false (ks ++ [(y, v)])))) : setdefW (.ref p) y v M Q := ⟨p, ks, rfl, hp, hk, hl, by
  have e : dput ks y v = ks ++ [(y, v)] := by unfold dput; rw [h]; rfl
  rw [h, e]
  exact q⟩
theorem i_lrng1 {t : Bool} (q : (w C b).e σ M fun y M2 => ∃ n, y = .int n ∧ n ≤ LIM ∧ -LIM ≤ n ∧ if t = true then Q (.tup (rngU 0 n)) M2 else ∀ p, M2 p = none → Q (.ref p) (um M2 p (.lst (rngU 0 n)))) : (w C (.lrng t .nil b)).e σ M Q := by
  refine (?_ : partW .nil (w C .nil).e σ M fun lo M1 => (w C b).e σ M1 fun y M2 => ∃ n, y = .int n ∧ n ≤ LIM ∧ -LIM ≤ n ∧ lo.getD 0 ≤ LIM ∧ -LIM ≤ lo.getD 0 ∧ if t = true then Q (.tup (rngU (lo.getD 0) n)) M2 else ∀ p, M2 p = none → Q (.ref p) (um M2 p (.lst (rngU (lo.getD 0) n))))
  unfold partW
  rw [if_pos (show isNil .nil = true from rfl)]
  have e : (fun (y : U) (M2 : Hm) => ∃ n : Int, y = .int n ∧ n ≤ LIM ∧ -LIM ≤ n ∧ if t = true then Q (.tup (rngU 0 n)) M2 else ∀ p, M2 p = none → Q (.ref p) (um M2 p (.lst (rngU 0 n)))) =
      fun y M2 => ∃ n : Int, y = .int n ∧ n ≤ LIM ∧ -LIM ≤ n ∧ ((none : Option Int).getD 0) ≤ LIM ∧ -LIM ≤ ((none : Option Int).getD 0) ∧ if t = true then Q (.tup (rngU ((none : Option Int).getD 0) n)) M2 else ∀ p, M2 p = none → Q (.ref p) (um M2 p (.lst (rngU ((none : Option Int).getD 0) n))) := by
    funext y M2
    refine propext ⟨fun ⟨(n : Int), h1, h2, h3, h4⟩ => ⟨n, h1, h2, h3, by show (0 : Int) ≤ _; unfold LIM; omega, by show _ ≤ (0 : Int); unfold LIM; omega, h4⟩, fun ⟨(n : Int), h1, h2, h3, _, _, h4⟩ => ⟨n, h1, h2, h3, h4⟩⟩
  rw [e] at q
  exact q
theorem i_lrn {n : Int} {R : Int → Prop} (h1 : n ≤ (LIM : Int)) (h2 : -(LIM : Int) ≤ n) (q : R n) : ∃ m : Int, U.int n = .int m ∧ m ≤ LIM ∧ -LIM ≤ m ∧ R m := ⟨n, rfl, h1, h2, q⟩
theorem i_tidx (q : (w C a).e σ M fun x M1 => (∃ l, x = .dtp l) ∧ (w C b).e σ M1 fun y M2 => tidxW x y M2 Q) : (w C (.tidx a b)).e σ M Q := q
theorem i_isT {l : List U} {R : Prop} (q : R) : (∃ l', U.dtp l = .dtp l') ∧ R := ⟨⟨l, rfl⟩, q⟩
theorem m_tidx {ys : List Str} {z : Str} {j : Nat} (h1 : ys[j]? = some z) (h2 : ∀ m, m < j → ys[m]? ≠ some z) (q : Q (.int (j : Nat)) M) : tidxW (.dtp (ys.map U.str)) (.str z) M Q := ⟨ys, z, j, rfl, rfl, h1, h2, q⟩
theorem in_dtp {x : U} {l : List U} (h1 : l.all isKey = true) (h2 : isKey x = true) (q : T (decide (x ∈ l)) M) : inW false x (.dtp l) M T := ⟨⟨h1, h2⟩, q⟩
theorem nin_dtp {x : U} {l : List U} (h1 : l.all isKey = true) (h2 : isKey x = true) (q : T (!decide (x ∈ l)) M) : inW true x (.dtp l) M T := ⟨⟨h1, h2⟩, q⟩
theorem tr_dtp {l : List U} (q : T (!decide (l = [])) M) : truW (.dtp l) M T := by
  show T (!l.isEmpty) M
  rw [emp_dec]; exact q
theorem x_dtp {l : List U} {j : Int} {v : U} (h : atI l j = some v) (q : Q v M) : ixW (.dtp l) (.int j) M Q := ⟨j, v, rfl, h, q⟩
theorem f_lenU {l : List U} (q : Q (.int l.length) M) : bltW .len [.dtp l] M Q := q
theorem f_listU {l : List U} (q : ∀ a, M a = none → Q (.ref a) (um M a (.lst l))) : bltW .list [.dtp l] M Q := q
theorem f_tupU {l : List U} (q : Q (.dtp l) M) : bltW .tuple [.dtp l] M Q := q
theorem f_tupd {p : Addr} {us : List U} (hp : M p = some (.lst us)) (q : Q (.dtp us) M) : bltW .tupd [.ref p] M Q := ⟨us, hp, q⟩
theorem y_dtp {t : String} {l : List U} (q : T (t == "tuple") M) : isTyW (.dtp l) t M T := q
theorem s_dtp {l : List U} {I : List U → (Hm → Prop) → ((Hm → Prop) → Hm → Prop) → Hm → Prop} (q : I l (fun _ => True) (fun P => P) M) : seqI (.dtp l) M I := q
theorem i_gint {x : Str} {j : Int} (q : Q (.int j) M) : (w C (.gint x j)).e σ M Q := q
theorem i_gstr {x s : Str} (q : Q (.str s) M) : (w C (.gstr x s)).e σ M Q := q
theorem o_rep {p : Addr} {us : List U} {k : Int} (hp : M p = some (.lst us)) (h1 : -LIM ≤ k) (h2 : k ≤ LIM) (h3 : us.length * k.toNat ≤ LIM) (q : ∀ a, M a = none → Q (.ref a) (um M a (.lst (List.replicate k.toNat us).flatten))) : binW .mul (.ref p) (.int k) M Q := ⟨us, hp, h1, h2, h3, q⟩
theorem f_sum {p : Addr} {ns : List Int} (hp : M p = some (.lst (ns.map U.int))) (q : Q (.int ns.sum) M) : bltW .sum [.ref p] M Q := ⟨ns, hp, q⟩
theorem f_all {p : Addr} {bs : List Bool} (hp : M p = some (.lst (bs.map U.bl))) (q : Q (.bl (bs.all id)) M) : bltW .all [.ref p] M Q := ⟨bs, hp, q⟩
theorem f_any {p : Addr} {bs : List Bool} (hp : M p = some (.lst (bs.map U.bl))) (q : Q (.bl (bs.any id)) M) : bltW .any [.ref p] M Q := ⟨bs, hp, q⟩
theorem f_maxL {p : Addr} {ns : List Int} (hp : M p = some (.lst (ns.map U.int))) (h : 0 < ns.length) (q : ∀ m, m ∈ ns → (∀ y, y ∈ ns → y ≤ m) → Q (.int m) M) : bltW .max [.ref p] M Q := ⟨ns, hp, h, q⟩
theorem f_minL {p : Addr} {ns : List Int} (hp : M p = some (.lst (ns.map U.int))) (h : 0 < ns.length) (q : ∀ m, m ∈ ns → (∀ y, y ∈ ns → m ≤ y) → Q (.int m) M) : bltW .min [.ref p] M Q := ⟨ns, hp, h, q⟩
variable {nx : SU → Hm → Prop} {rt : QU} {bk ct : SU → Hm → Prop} {x y z : S}
theorem z_setF {cn f : Str} (q : (w C b).e σ M fun v M1 => (w C a).e σ M1 fun x M2 => ∃ p fs, x = .ref p ∧ M2 p = some (.obj cn fs) ∧ fs.length < 1000 ∧ nx σ (um M2 p (.obj cn (fput f v fs)))) : wS C (.setF cn f a b) ⟨nx, rt, bk, ct⟩ σ M := q
theorem st_fld {cn : Str} {p : Addr} {fs : List (Str × U)} {R : Addr → List (Str × U) → Prop} (hp : M p = some (.obj cn fs)) (hl : fs.length < 1000) (q : R p fs) : ∃ p' fs', U.ref p = .ref p' ∧ M p' = some (.obj cn fs') ∧ fs'.length < 1000 ∧ R p' fs' := ⟨p, fs, rfl, hp, hl, q⟩
end
end Pl

set_option maxHeartbeats 400000
local macro_rules | `(tactic| get_elem_tactic_extensible) => `(tactic| first | assumption | exact Pl.um_same | (refine Pl.um_old ?_ ?_ <;> get_elem_tactic_extensible) | (refine Pl.um_oth (by first | assumption | exact Ne.symm (by assumption)) ?_; get_elem_tactic_extensible) | exact Pl.um_none (by assumption))
local macro_rules | `(tactic| decreasing_trivial_pre_omega) => `(tactic| first | ((with_reducible apply Pl.i_var); exact rfl) | ((with_reducible apply Pl.t_var); exact rfl) | ((with_reducible apply Pl.x_tup); exact rfl) | ((with_reducible apply Pl.x_dtp); exact rfl) | with_reducible refine Pl.z_seq ?_ | with_reducible refine Pl.z_skip ?_ | with_reducible refine Pl.z_asg ?_ | with_reducible refine Pl.z_ret ?_ | with_reducible refine Pl.z_ifs ?_ | with_reducible refine Pl.i_int ?_ | with_reducible refine Pl.i_str ?_ | with_reducible refine Pl.i_bl ?_ | with_reducible refine Pl.i_non ?_ | with_reducible refine Pl.i_cons ?_ | with_reducible refine Pl.i_nil ?_ | with_reducible refine Pl.i_ix ?_ | with_reducible refine Pl.i_cmp ?_ | with_reducible refine Pl.t_cmp ?_ | with_reducible refine Pl.i_call ?_ | with_reducible refine Pl.i_blt ?_ | with_reducible refine Pl.i_tup ?_ | with_reducible refine Pl.i_dtup ?_ | with_reducible refine Pl.i_bin ?_ | with_reducible refine Pl.o_add ?_ | with_reducible refine Pl.o_sub ?_ | with_reducible refine Pl.c_eq ?_ | with_reducible refine Pl.c_ne ?_ | with_reducible refine Pl.eq_int ?_ | with_reducible refine Pl.eq_str ?_ | with_reducible refine Pl.c_lt ?_ | with_reducible refine Pl.c_le ?_ | with_reducible refine Pl.c_gt ?_ | with_reducible refine Pl.c_ge ?_ | with_reducible refine Pl.to_2 ?_ | with_reducible refine Pl.to_1 ?_ | with_reducible refine Pl.ta_2 ?_ | with_reducible refine Pl.ta_1 ?_ | with_reducible refine Pl.t_ors ?_ | with_reducible refine Pl.t_ands ?_ | with_reducible refine Pl.t_not ?_ | with_reducible refine Pl.t_isN ?_ | with_reducible refine Pl.t_notN ?_ | with_reducible refine Pl.t_isB ?_ | with_reducible refine Pl.t_isNB ?_ | with_reducible refine Pl.t_isinst ?_ | with_reducible refine Pl.t_ix ?_ | with_reducible refine Pl.t_call ?_ | with_reducible refine Pl.t_blt ?_ | with_reducible refine Pl.t_bl ?_ | with_reducible refine Pl.t_bin ?_ | with_reducible refine Pl.t_chain ?_ | with_reducible refine Pl.i_lst ?_ | with_reducible refine Pl.i_dnew ?_ | with_reducible refine Pl.i_neg ?_ | with_reducible refine Pl.i_neg2 ?_ | with_reducible refine Pl.i_chain ?_ | with_reducible refine Pl.i_isN ?_ | with_reducible refine Pl.i_notN ?_ | with_reducible refine Pl.i_isB ?_ | with_reducible refine Pl.i_isNB ?_ | with_reducible refine Pl.i_ands ?_ | with_reducible refine Pl.i_ors ?_ | with_reducible refine Pl.i_not ?_ | with_reducible refine Pl.i_bW ?_ | with_reducible refine Pl.i_exB ?_ | with_reducible refine Pl.i_exI ?_ | with_reducible refine Pl.i_exII ?_ | with_reducible refine Pl.i_ite ?_ | with_reducible refine Pl.i_dget ?_ | with_reducible refine Pl.t_dget ?_ | with_reducible refine Pl.i_slice ?_ | with_reducible refine Pl.i_part0 ?_ | with_reducible refine Pl.i_mth ?_ | with_reducible refine Pl.i_isinst ?_ | with_reducible refine Pl.i_compN ?_ | with_reducible refine Pl.va_1 ?_ | with_reducible refine Pl.va_2 ?_ | with_reducible refine Pl.vo_1 ?_ | with_reducible refine Pl.vo_2 ?_ | with_reducible refine Pl.c_in ?_ | with_reducible refine Pl.c_nin ?_ | with_reducible refine Pl.eq_bl ?_ | with_reducible refine Pl.tr_bl ?_ | with_reducible refine Pl.tr_int ?_ | with_reducible refine Pl.tr_tup ?_ | with_reducible refine Pl.tr_non ?_ | with_reducible refine Pl.sl_tup ?_ | with_reducible refine Pl.f_lenT ?_ | with_reducible refine Pl.f_listT ?_ | with_reducible refine Pl.f_tupT ?_ | with_reducible refine Pl.f_int ?_ | with_reducible refine Pl.f_intB ?_ | with_reducible refine Pl.f_abs ?_ | with_reducible refine Pl.f_max ?_ | with_reducible refine Pl.f_min ?_ | with_reducible refine Pl.y_non ?_ | with_reducible refine Pl.y_bl ?_ | with_reducible refine Pl.y_int ?_ | with_reducible refine Pl.y_str ?_ | with_reducible refine Pl.y_tup ?_ | with_reducible refine Pl.w_seq ?_ | with_reducible refine Pl.w_rev ?_ | with_reducible refine Pl.r_tup ?_ | with_reducible refine Pl.r_dtp ?_ | with_reducible refine Pl.w_enum ?_ | with_reducible refine Pl.w_rng ?_ | with_reducible refine Pl.w_rng2 ?_ | with_reducible refine Pl.s_tup ?_ | with_reducible refine Pl.s_rol ?_ | with_reducible refine Pl.z_asgT ?_ | with_reducible refine Pl.z_setIx ?_ | with_reducible refine Pl.z_augIx ?_ | with_reducible refine Pl.z_for ?_ | with_reducible refine Pl.z_retN ?_ | with_reducible refine Pl.z_setF ?_ | with_reducible refine Pl.i_fld ?_ | with_reducible refine Pl.t_fld ?_ | with_reducible refine Pl.i_meth ?_ | with_reducible refine Pl.t_meth ?_ | with_reducible refine Pl.i_make ?_ | with_reducible refine Pl.i_prop ?_ | with_reducible refine Pl.t_prop ?_ | with_reducible refine Pl.i_setdef ?_ | with_reducible refine Pl.i_lrng1 ?_ | with_reducible refine Pl.i_gint ?_ | with_reducible refine Pl.i_gstr ?_ | with_reducible refine Pl.i_tidx ?_ | with_reducible refine Pl.i_isT ?_ | with_reducible refine Pl.tr_dtp ?_ | with_reducible refine Pl.f_lenU ?_ | with_reducible refine Pl.f_listU ?_ | with_reducible refine Pl.f_tupU ?_ | with_reducible refine Pl.y_dtp ?_ | with_reducible refine Pl.s_dtp ?_ | with_reducible refine Pl.z_brk ?_ | with_reducible refine Pl.z_cnt ?_ | with_reducible refine Pl.z_expr ?_ | with_reducible refine Pl.tg_one ?_ | with_reducible refine Pl.i_ifn ?_ | ((with_reducible apply Pl.i_compC); exact rfl) | ((with_reducible apply Pl.i_part1); exact rfl) | ((with_reducible apply Pl.z_asgT2); exact rfl) | ((with_reducible apply Pl.z_augV); exact rfl) | ((with_reducible apply Pl.tg_many); exact rfl) | ((with_reducible apply Pl.tr_lst); get_elem_tactic_extensible) | ((with_reducible apply Pl.tr_dct); get_elem_tactic_extensible) | ((with_reducible apply Pl.sl_lst); get_elem_tactic_extensible) | ((with_reducible apply Pl.f_lenL); get_elem_tactic_extensible) | ((with_reducible apply Pl.f_lenD); get_elem_tactic_extensible) | ((with_reducible apply Pl.f_listL); get_elem_tactic_extensible) | ((with_reducible apply Pl.f_listD); get_elem_tactic_extensible) | ((with_reducible apply Pl.f_tupL); get_elem_tactic_extensible) | ((with_reducible apply Pl.y_lst); get_elem_tactic_extensible) | ((with_reducible apply Pl.s_lst); get_elem_tactic_extensible) | ((with_reducible apply Pl.r_lst); get_elem_tactic_extensible) | ((with_reducible apply Pl.i_rcvA); get_elem_tactic_extensible) | ((with_reducible apply Pl.i_rcvE); get_elem_tactic_extensible) | ((with_reducible apply Pl.i_rcvP); get_elem_tactic_extensible) | ((with_reducible apply Pl.i_rcvQ); get_elem_tactic_extensible) | ((with_reducible apply Pl.i_rcvX); get_elem_tactic_extensible) | ((with_reducible apply Pl.i_isD); get_elem_tactic_extensible) | ((with_reducible apply Pl.i_isQ); get_elem_tactic_extensible) | ((with_reducible apply Pl.f_tupd); get_elem_tactic_extensible) | ((with_reducible apply Pl.f_sum); get_elem_tactic_extensible) | ((with_reducible apply Pl.f_all); get_elem_tactic_extensible) | ((with_reducible apply Pl.f_any); get_elem_tactic_extensible) | ((with_reducible apply Pl.x_lst); get_elem_tactic_extensible; exact rfl) | ((with_reducible apply Pl.g_lst); get_elem_tactic_extensible; exact rfl) | ((with_reducible apply Pl.st_lst); get_elem_tactic_extensible; exact rfl) | ((with_reducible apply Pl.i_isF); get_elem_tactic_extensible; exact rfl) | ((with_reducible apply Pl.i_isO); get_elem_tactic_extensible; exact rfl) | ((with_reducible apply Pl.st_fld); get_elem_tactic_extensible; exact Nat.le_of_ble_eq_true rfl) | ((with_reducible apply Pl.i_ift); (first | exact rfl | assumption | decide +kernel)) | ((with_reducible apply Pl.i_iff); (first | exact rfl | assumption | decide +kernel)) | ((with_reducible apply Pl.o_mod); (first | omega | decide)) | ((with_reducible apply Pl.o_fdiv); exact ⟨by first | omega | decide, by first | omega | decide⟩) | ((with_reducible apply Pl.o_mul); first | exact Pl.cmul_l (by omega) (by omega) | exact Pl.cmul_r (by omega) (by omega)) | ((with_reducible apply Pl.o_pow); exact ⟨by decide, by decide, by decide⟩) | ((with_reducible apply Pl.o_shl); exact ⟨by decide, by decide, by decide⟩) | ((with_reducible apply Pl.i_ifdt); (first | assumption | exact rfl | decide +kernel)) | ((with_reducible apply Pl.i_ifdf); (first | assumption | decide +kernel)) | ((with_reducible refine Pl.i_le ?_ ?_); exact Nat.le_of_ble_eq_true rfl) | ((with_reducible refine Pl.i_lt ?_ ?_); exact Nat.le_of_ble_eq_true rfl))
/-! the draws -/
namespace Pl
open PySem L2
/-- a row of draws: where it lies, where its script lies -/
def Dr (M : Hm) (p : Addr × Addr) : Prop := ∃ (cells : List Int) (a b c : Int), p.2 ≠ p.1 ∧ M p.1 = some (.lst [.ref p.2, .int a, .int b, .int c]) ∧ M p.2 = some (.lst (cells.map U.int)) ∧ 0 ≤ a
def bDraw : S := (.seq (.ifs (.cmp .gt (.ix (.var 0) (.int 2)) (.int 0)) (.seq (.asg 2 (.ix (.var 0) (.int 2))) (.seq (.setIx (.var 0) (.int 2) (.bin .fdiv (.var 2) (.var 1))) (.seq (.ret (.bin .mod (.blt .int (.cons (.var 2) .nil)) (.var 1))) .skip))) .skip) (.seq (.asg 3 (.int 0)) (.seq (.ifs (.cmp .lt (.ix (.var 0) (.int 1)) (.blt .len (.cons (.ix (.var 0) (.int 0)) .nil))) (.seq (.asg 4 (.ix (.ix (.var 0) (.int 0)) (.ix (.var 0) (.int 1)))) (.seq (.asg 3 (.bin .add (.bin .mul (.int 2) (.blt .abs (.cons (.var 4) .nil))) (.blt .int (.cons (.cmp .lt (.var 4) (.int 0)) .nil)))) .skip)) .skip) (.seq (.augIx (.var 0) (.int 1) .add (.int 1)) (.seq (.ifs (.cmp .ge (.var 3) (.bin .mul (.int 2) (.bin .pow (.int 10) (.int 18)))) (.seq (.asg 2 (.bin .mod (.blt .int (.cons (.bin .fdiv (.var 3) (.int 2)) .nil)) (.bin .shl (.int 1) (.int 6000)))) (.seq (.setIx (.var 0) (.int 2) (.bin .fdiv (.var 2) (.var 1))) (.seq (.ret (.bin .mod (.blt .int (.cons (.var 2) .nil)) (.var 1))) .skip))) .skip) (.seq (.setIx (.var 0) (.int 3) (.bin .mod (.blt .int (.cons (.bin .add (.bin .add (.bin .add (.bin .mul (.ix (.var 0) (.int 3)) (.int 48271)) (.bin .mul (.bin .mod (.blt .int (.cons (.var 3) .nil)) (.int 2147483629)) (.int 16807))) (.bin .mul (.ix (.var 0) (.int 1)) (.int 69621))) (.int 11)) .nil)) (.int 2147483647))) (.seq (.ret (.bin .mod (.blt .int (.cons (.bin .fdiv (.ix (.var 0) (.int 3)) (.int 16)) .nil)) (.var 1))) .skip)))))))
theorem atI_map {l : List Int} {i : Int} (h0 : 0 ≤ i) (h : i < l.length) : ∃ x, atI (l.map U.int) i = some (.int x) := by
  unfold atI ixN
  rw [if_pos h0]
  have hn : i.toNat < l.length := by omega
  refine ⟨l[i.toNat], ?_⟩
  rw [if_pos (by rw [List.length_map]; exact h)]
  simp [hn]
theorem draw_ok {C : CE} {nx bk ct : SU → Hm → Prop} {rt : QU} {M : Hm} {p : Addr × Addr} {many : Int} (h : Dr M p) (h1 : 0 < many) (h2 : many < 1073741824)
    (hq : ∀ r M', 0 ≤ r → r < many → Dr M' p → (∀ a, a ≠ p.1 → M' a = M a) → rt (.int r) M') : wS C bDraw ⟨nx, rt, bk, ct⟩ (startU 5 [.ref p.1, .int many]) M := by
  obtain ⟨cells, a, b, c, hn, hp, hc, ha⟩ := h
  have many_ne : many ≠ 0 := by omega
  have fin : ∀ (a b c : Int) (x : Int), 0 ≤ a → rt (.int (x % many)) (um M p.1 (.lst [.ref p.2, .int a, .int b, .int c])) := fun a b c x ha =>
    hq _ _ (Int.emod_nonneg _ many_ne) (Int.emod_lt_of_pos _ h1) ⟨cells, a, b, c, hn, um_same, by rw [um_ne hn]; exact hc, ha⟩ (fun a h => um_ne h)
  unfold bDraw
  (repeat decreasing_trivial_pre_omega)
  refine i_ifd (fun hb => ?_) (fun hb => ?_)
  · (repeat decreasing_trivial_pre_omega)
    exact fin _ _ _ _ ha
  · (repeat decreasing_trivial_pre_omega)
    refine i_ifd (fun hi => ?_) (fun hi => ?_)
    · (repeat decreasing_trivial_pre_omega)
      obtain ⟨x, hx⟩ := atI_map ha (by simpa using hi)
      refine x_lst hc hx ?_
      (repeat decreasing_trivial_pre_omega)
      refine i_ifd (fun hs => ?_) (fun hs => ?_)
      · (repeat decreasing_trivial_pre_omega)
        simp only [um_um]
        exact fin _ _ _ _ (by omega)
      · (repeat decreasing_trivial_pre_omega)
        simp only [um_um]
        exact fin _ _ _ _ (by omega)
    · (repeat decreasing_trivial_pre_omega)
      simp only [um_um]
      exact fin _ _ _ _ (by omega)
/-- what is not the draws' own stays -/
def Fr (p : Addr × Addr) (M M' : Hm) : Prop := ∀ a, a ≠ p.1 → ∀ o, M a = some o → M' a = some o
theorem Fr.refl (p : Addr × Addr) (M : Hm) : Fr p M M := fun _ _ _ h => h
theorem Fr.trans {p : Addr × Addr} {A B D : Hm} (h : Fr p A B) (g : Fr p B D) : Fr p A D := fun a n o e => g a n o (h a n o e)
theorem Fr.at_ {p : Addr × Addr} {a : Addr} {A B : Hm} {r : MO} (h : Fr p A B) (n : a ≠ p.1) (e : A a = some r) : B a = some r := h a n r e
theorem Sub.fr {p : Addr × Addr} {A B : Hm} (h : Sub A B) : Fr p A B := fun a _ o e => h a o e
theorem Fr.of_eq {p : Addr × Addr} {A B : Hm} (h : ∀ a, a ≠ p.1 → B a = A a) : Fr p A B := fun a n o e => (h a n).trans e
theorem Dr.mem {M : Hm} {p : Addr × Addr} (h : Dr M p) : ∃ o, M p.1 = some o := by
  obtain ⟨cells, a, b, c, hn, hp, hc, ha⟩ := h
  exact ⟨_, hp⟩
theorem Dr.ne {M : Hm} {p : Addr × Addr} {a : Addr} (h : Dr M p) (ha : M a = none) : a ≠ p.1 := by
  obtain ⟨o, e⟩ := h.mem
  exact ne_of_old' e ha
/-- a thing of its own does not touch the draws -/
theorem Dr.upd {M : Hm} {p : Addr × Addr} {a : Addr} {o : MO} (h : Dr M p) (ha : M a = none) : Dr (um M a o) p := by
  have hne := h.ne ha
  obtain ⟨cells, i, b, c, hn, hp, hc, hi⟩ := h
  exact ⟨cells, i, b, c, hn, um_old hp ha, um_old hc ha, hi⟩
theorem Dr.sub {M M' : Hm} {p : Addr × Addr} (h : Dr M p) (s : Sub M M') : Dr M' p := by
  obtain ⟨cells, i, b, c, hn, hp, hc, hi⟩ := h
  exact ⟨cells, i, b, c, hn, s _ _ hp, s _ _ hc, hi⟩
def DrawC (C : CE) (f : Nat) : Prop := ∀ (M : Hm) (p : Addr × Addr) (many : Int) (Q : QU), Dr M p → 0 < many → many < 1073741824 →
  (∀ r M', 0 ≤ r → r < many → Dr M' p → Fr p M M' → Q (.int r) M') → C f [.ref p.1, .int many] M Q
theorem Dr.ne2 {M : Hm} {p : Addr × Addr} {a : Addr} (h : Dr M p) (ha : M a = none) : a ≠ p.2 := by
  obtain ⟨cells, i, b, c, hn, hp, hc, hi⟩ := h
  exact ne_of_old' hc ha
/-- a thing that is not the draws' own may change -/
theorem Dr.upd2 {M : Hm} {p : Addr × Addr} {a : Addr} {o : MO} (h : Dr M p) (h1 : a ≠ p.1) (h2 : a ≠ p.2) : Dr (um M a o) p := by
  obtain ⟨cells, i, b, c, hn, hp, hc, hi⟩ := h
  exact ⟨cells, i, b, c, hn, um_oth h1.symm hp, um_oth h2.symm hc, hi⟩
theorem Fr.non {p : Addr × Addr} {A B : Hm} {a : Addr} (h : Fr p A B) (n : a ≠ p.1) (e : B a = none) : A a = none := by
  cases q : A a with
  | none => rfl
  | some o => rw [h a n o q] at e; cases e
theorem Fr.upd {p : Addr × Addr} {A B : Hm} {a : Addr} {o : MO} (h : Fr p A B) (e : A a = none) : Fr p A (um B a o) := fun b n o' q => by
  rw [um_ne (ne_of_old q e)]
  exact h b n o' q
end Pl

set_option maxHeartbeats 400000
/-! one of a row; what the laws' own parts share -/
namespace Pl
open PySem L2
def bPick (f : Nat) : S := (.seq (.ret (.ix (.var 1) (.call f (.cons (.var 0) (.cons (.blt .len (.cons (.var 1) .nil)) .nil))))) .skip)
def RowAt (M : Hm) (p : Addr × Addr) (row : U) (us : List U) : Prop := row = .tup us ∨ ∃ r, row = .ref r ∧ r ≠ p.1 ∧ M r = some (.lst us)
theorem atI_nn {α : Type} {l : List α} {r : Int} (h0 : 0 ≤ r) (h : r < l.length) : ∃ x, atI l r = some x ∧ x ∈ l := by
  have hn : r.toNat < l.length := by omega
  refine ⟨l[r.toNat], ?_, List.getElem_mem hn⟩
  unfold atI ixN
  rw [if_pos h0, if_pos h]
  show l[r.toNat]? = some l[r.toNat]
  exact List.getElem?_eq_getElem hn
theorem pick_ok {C : CE} {f : Nat} (hd : DrawC C f) {nx bk ct : SU → Hm → Prop} {rt : QU} {M : Hm} {p : Addr × Addr} {row : U} {us : List U} (h : Dr M p) (hr : RowAt M p row us) (h1 : us ≠ []) (h2 : us.length < 1073741824)
    (hq : ∀ x M', x ∈ us → Dr M' p → Fr p M M' → rt x M') : wS C (bPick f) ⟨nx, rt, bk, ct⟩ (startU 2 [.ref p.1, row]) M := by
  have hl : 0 < us.length := List.length_pos_iff.mpr h1
  unfold bPick
  (repeat decreasing_trivial_pre_omega)
  rcases hr with rfl | ⟨r, rfl, hn, hm⟩
  · (repeat decreasing_trivial_pre_omega)
    refine hd _ _ _ _ h (by omega) (by omega) fun r M' r0 r1 d' fr => ?_
    obtain ⟨x, hx, hxm⟩ := atI_nn r0 r1
    refine x_tup hx ?_
    exact hq _ _ hxm d' fr
  · (repeat decreasing_trivial_pre_omega)
    refine hd _ _ _ _ h (by omega) (by omega) fun i M' r0 r1 d' fr => ?_
    obtain ⟨x, hx, hxm⟩ := atI_nn r0 r1
    refine x_lst (fr.at_ hn hm) hx ?_
    exact hq _ _ hxm d' fr
def PickC (C : CE) (f : Nat) : Prop := ∀ (M : Hm) (p : Addr × Addr) (row : U) (us : List U) (Q : QU), Dr M p → RowAt M p row us → us ≠ [] → us.length < 1073741824 →
  (∀ x M', x ∈ us → Dr M' p → Fr p M M' → Q x M') → C f [.ref p.1, row] M Q
theorem DrawC.lt {C : CE} {f : Nat} (h : DrawC C f) (M : Hm) (p : Addr × Addr) (many : Nat) (Q : QU) (d : Dr M p) (h0 : 0 < many) (h1 : many < 1073741824) (hq : ∀ (r : Nat) M', r < many → Dr M' p → Fr p M M' → Q (.int r) M') : C f [.ref p.1, .int many] M Q :=
  h M p many Q d (by omega) (by omega) fun r M' r0 r1 d' fr => by
    have e : r = ((r.toNat : Nat) : Int) := by omega
    rw [e]
    exact hq r.toNat M' (by omega) d' fr
theorem atI_nat {α : Type} {l : List α} {i : Nat} (h : i < l.length) : atI l (i : Int) = some l[i] := by
  unfold atI ixN
  rw [if_pos (by omega), if_pos (by omega)]
  show l[((i : Nat) : Int).toNat]? = _
  rw [Int.toNat_natCast]
  exact List.getElem?_eq_getElem h
theorem rngU_nat (n : Nat) : rngU 0 (n : Int) = (List.range n).map fun i => .int (i : Nat) := by
  unfold rngU
  rw [Int.sub_zero, Int.toNat_natCast]
  refine List.map_congr_left fun i _ => ?_
  rw [Int.zero_add]
def bBegin : S := (.seq (.ret (.lst (.cons (.comp [("cell", 1)] (.one 1) (.iSeq (.var 0)) .nil (.blt .int (.cons (.var 1) .nil))) (.cons (.int 0) (.cons (.int 0) (.cons (.int 7) .nil)))))) .skip)
theorem begin_ok {C : CE} {nx bk ct : SU → Hm → Prop} {rt : QU} {M : Hm} {ns : List Int} (hl : ns.length ≤ 63) (hq : ∀ (p : Addr × Addr) M', Sub M M' → Dr M' p → rt (.ref p.1) M') : wS C bBegin ⟨nx, rt, bk, ct⟩ (startU 2 [.rol (ns.map U.int)]) M := by
  unfold bBegin
  (repeat decreasing_trivial_pre_omega)
  refine compL_by (fun don rest acc M' => M' = M ∧ acc = don.map U.int) ns ⟨rfl, rfl⟩ ?_ ?_
  · intro don x rest acc M' k e ⟨e1, e2⟩ hk
    subst e1 e2
    (repeat decreasing_trivial_pre_omega)
    refine hk _ _ trivial (fun _ => ?_) ⟨rfl, by simp⟩
    have : don.length ≤ ns.length := by rw [← e]; simp
    simp [LIM]
    omega
  · intro acc M' ⟨e1, e2⟩
    subst e1 e2
    (repeat decreasing_trivial_pre_omega)
    intro q hq0
    (repeat decreasing_trivial_pre_omega)
    intro p hp0
    refine hq (p, q) _ ?_ ⟨ns, 0, 0, 7, ?_, um_same, ?_, by decide⟩
    · exact sub_um (sub_um (Sub.refl _) hq0) (um_none hp0)
    · intro e; have e : q = p := e; subst e; rw [um_same] at hp0; cases hp0
    · exact um_old um_same hp0
theorem snocs {α : Type} {P : List α → Prop} (h0 : P []) (h1 : ∀ l x, P l → P (l ++ [x])) (l : List α) : P l := by
  suffices h : ∀ (r d : List α), P d → P (d ++ r) from h l [] h0
  intro r
  induction r with
  | nil => intro d h; rwa [List.append_nil]
  | cons x r ih => intro d h; have := ih (d ++ [x]) (h1 d x h); rwa [List.append_assoc] at this
/-! dicts as rows of pairs -/
theorem dput_len (ks : List (U × U)) (x v : U) : (dput ks x v).length ≤ ks.length + 1 := by
  unfold dput
  split
  · rw [List.length_map]; omega
  · rw [List.length_append]; exact Nat.le_refl _
theorem dfind_isSome {ks : List (U × U)} {x : U} : (dfind ks x).isSome = decide (x ∈ ks.map (·.1)) := by
  unfold dfind
  rw [Option.isSome_map]
  rw [Bool.eq_iff_iff, List.find?_isSome, decide_eq_true_eq, List.mem_map]
  constructor
  · rintro ⟨p, hp, e⟩; exact ⟨p, hp, of_decide_eq_true e⟩
  · rintro ⟨p, hp, e⟩; exact ⟨p, hp, decide_eq_true e⟩
theorem dput_keys (ks : List (U × U)) (x v : U) : (dput ks x v).map (·.1) = if x ∈ ks.map (·.1) then ks.map (·.1) else ks.map (·.1) ++ [x] := by
  unfold dput
  rw [dfind_isSome]
  by_cases h : x ∈ ks.map (·.1)
  · rw [if_pos (decide_eq_true h), if_pos h, List.map_map]
    refine List.map_congr_left fun p _ => ?_
    show (if p.1 = x then (p.1, v) else p).1 = p.1
    split <;> rfl
  · rw [if_neg (by simpa using h), if_neg h, List.map_append]
    rfl
theorem dput_mem {ks : List (U × U)} {x v : U} {p : U × U} (h : p ∈ dput ks x v) : p ∈ ks ∨ p = (x, v) := by
  unfold dput at h
  split at h
  · rw [List.mem_map] at h
    obtain ⟨q, hq, e⟩ := h
    split at e
    · rename_i hx
      right; rw [← e, hx]
    · left; rw [← e]; exact hq
  · rw [List.mem_append, List.mem_singleton] at h
    exact h
theorem dput_nodup {ks : List (U × U)} {x v : U} (h : (ks.map (·.1)).Nodup) : ((dput ks x v).map (·.1)).Nodup := by
  rw [dput_keys]
  split
  · exact h
  · rename_i hn
    rw [List.nodup_append]
    exact ⟨h, by simp, fun a ha b hb e => by rw [List.mem_singleton] at hb; subst hb; subst e; exact hn ha⟩
theorem dfind_mem {ks : List (U × U)} (h : (ks.map (·.1)).Nodup) {p : U × U} (hp : p ∈ ks) : dfind ks p.1 = some p.2 := by
  induction ks with
  | nil => cases hp
  | cons q ks ih =>
    rw [List.map_cons, List.nodup_cons] at h
    unfold dfind
    rw [List.find?_cons]
    rcases List.mem_cons.mp hp with e | hp
    · subst e
      simp
    · have hne : q.1 ≠ p.1 := fun e => h.1 (by rw [e]; exact List.mem_map_of_mem hp)
      rw [show decide (q.1 = p.1) = false from decide_eq_false hne]
      exact ih h.2 hp
theorem dput_find (ks : List (U × U)) (x v : U) : dfind (dput ks x v) x = some v := by
  unfold dput
  cases h : (dfind ks x).isSome with
  | true =>
    rw [if_pos rfl]
    induction ks with
    | nil => cases h
    | cons q ks ih =>
      unfold dfind
      rw [List.map_cons, List.find?_cons]
      by_cases e : q.1 = x
      · rw [if_pos e]
        simp [e]
      · rw [if_neg e, show decide (q.1 = x) = false from decide_eq_false e]
        refine ih ?_
        unfold dfind at h ⊢
        rw [List.find?_cons, show decide (q.1 = x) = false from decide_eq_false e] at h
        exact h
  | false =>
    rw [if_neg (by decide)]
    unfold dfind at h ⊢
    rw [List.find?_append]
    cases q : ks.find? (fun p => decide (p.1 = x)) with
    | some p => rw [q] at h; cases h
    | none => simp
theorem cutU_take {α : Type} (l : List α) (n : Nat) : cutU l none (some (n : Int)) = l.take n := by
  unfold cutU HT.sIx
  simp only [List.drop_zero, Nat.sub_zero]
  rw [if_neg (by omega), Int.toNat_natCast]
  rcases Nat.le_total n l.length with h | h
  · rw [Nat.min_eq_left h]
  · rw [Nat.min_eq_right h, List.take_length, List.take_of_length_le h]
theorem okL_of {l : List U} (h : ∀ x ∈ l, x.ok 59 = true) : okL l = true := List.all_eq_true.mpr h
theorem pd_tup (x : U) (l : List U) : pd (.tup (x :: l)) = .tuple (pd x :: pdL l) := by simp [pd, pdL]
end Pl

set_option maxHeartbeats 4000000
/-! the text's small syntax, its check, its head: printed by wip/gen.py -/
namespace K05
open PySem L2 Pl
/-- rule_names -/
def b0 : S := (.seq (.ret (.blt .tuple (.cons (.comp [("pair", 1)] (.one 1) (.iSeq (.ix (.var 0) (.int 2))) .nil (.ix (.var 1) (.int 0))) .nil))) .skip)
def d0 : Df := { name := "rule_names", ps := ["book"], N := ["book", "pair"], b := b0 }
/-- body_of -/
def b1 : S := (.seq (.for_ (.many [2, 3]) (.iSeq (.ix (.var 0) (.int 2))) (.seq (.ifs (.cmp .eq (.var 2) (.var 1)) (.seq (.ret (.var 3)) .skip) .skip) .skip)) (.seq .nvr .skip))
def d1 : Df := { name := "body_of", ps := ["book", "rule"], N := ["book", "rule", "name", "body"], b := b1 }
/-- puts_before -/
def b2 : S := (.seq (.asg 2 (.dnew false)) (.seq (.for_ (.one 3) (.iSeq (.slice (.var 0) .nil (.var 1))) (.seq (.ifs (.cmp .eq (.ix (.var 3) (.int 0)) (.str "put")) (.seq (.setIx (.var 2) (.ix (.var 3) (.int 1)) (.ix (.var 3) (.int 2))) .skip) .skip) .skip)) (.seq (.ret (.var 2)) .skip)))
def d2 : Df := { name := "puts_before", ps := ["trace", "place"], N := ["trace", "place", "found", "event"], b := b2 }
/-- lay_of -/
def b3 : S := (.seq (.asg 1 (.call 2 (.cons (.var 0) (.cons (.blt .len (.cons (.var 0) .nil)) .nil)))) (.seq (.ret (.blt .tuple (.cons (.comp [("file", 2)] (.one 2) (.iKeys (.var 1)) .nil (.tup (.cons (.var 2) (.cons (.ix (.var 1) (.var 2)) .nil)))) .nil))) .skip))
def d3 : Df := { name := "lay_of", ps := ["trace"], N := ["trace", "found", "file"], b := b3 }
/-- Making.__init__ -/
def b4 : S := (.seq (.setF "Making" "rulebook" (.var 0) (.var 1)) (.seq (.setF "Making" "around" (.var 0) (.var 2)) (.seq (.setF "Making" "done" (.var 0) (.dnew false)) (.seq (.setF "Making" "order" (.var 0) (.lst .nil)) (.seq (.setF "Making" "owners" (.var 0) (.dnew false)) (.seq (.setF "Making" "contents" (.var 0) (.dnew false)) (.seq (.setF "Making" "seen" (.var 0) (.dnew false)) (.seq (.setF "Making" "moves" (.var 0) (.lst .nil)) .skip))))))))
def d4 : Df := ⟨"__init__", ["self", "book", "world"], ["self", "book", "world"], b4, some "Making", "Making.__init__", false⟩
/-- Making.look -/
def b5 : S := (.seq (.ifs (.cmp .isin (.var 3) (.var 2)) (.seq (.ret (.ix (.var 2) (.var 3))) .skip) .skip) (.seq (.setIx (.setdef (.fld "seen" (.var 0)) (.var 3) (.dnew false)) (.var 1) (.bl true)) (.seq (.ret (.meth "Making" "content_of" 6 (.var 0) (.cons (.var 3) .nil))) .skip)))
def d5 : Df := ⟨"look", ["self", "rule", "own", "file"], ["self", "rule", "own", "file"], b5, some "Making", "Making.look", false⟩
/-- Making.content_of -/
def b6 : S := (.seq (.for_ (.many [2, 3]) (.iEnum (.ix (.fld "rulebook" (.var 0)) (.int 1))) (.seq (.ifs (.cmp .eq (.var 3) (.var 1)) (.seq (.ret (.ix (.fld "around" (.var 0)) (.var 2))) .skip) .skip) .skip)) (.seq (.ret (.dget (.fld "contents" (.var 0)) (.var 1) (.neg (.int 1)))) .skip))
def d6 : Df := ⟨"content_of", ["self", "file"], ["self", "file", "place", "name"], b6, some "Making", "Making.content_of", false⟩
/-- Making.faults_of -/
def b7 : S := (.seq (.for_ (.many [3, 4]) (.iSeq (.var 2)) (.seq (.ifs (.cmp .isin (.var 3) (.ix (.fld "rulebook" (.var 0)) (.int 1))) (.seq (.ret (.tup (.cons (.str "broken") (.cons (.str "source") (.cons (.var 3) (.cons (.var 1) (.cons (.str "") .nil))))))) .skip) .skip) (.seq (.ifs (.cmp .isin (.var 3) (.fld "owners" (.var 0))) (.seq (.ret (.tup (.cons (.str "broken") (.cons (.str "twice") (.cons (.var 3) (.cons (.var 1) (.cons (.ix (.fld "owners" (.var 0)) (.var 3)) .nil))))))) .skip) .skip) (.seq (.for_ (.one 5) (.iSeq (.call 0 (.cons (.fld "rulebook" (.var 0)) .nil))) (.seq (.ifs (.ands (.cons (.cmp .ne (.var 5) (.var 1)) (.cons (.cmp .isin (.var 5) (.dget (.fld "seen" (.var 0)) (.var 3) (.dnew false))) .nil))) (.seq (.ret (.tup (.cons (.str "broken") (.cons (.str "late") (.cons (.var 3) (.cons (.var 1) (.cons (.var 5) .nil))))))) .skip) .skip) .skip)) .skip)))) (.seq (.ret .non) .skip))
def d7 : Df := ⟨"faults_of", ["self", "rule", "lay"], ["self", "rule", "lay", "file", "content", "name"], b7, some "Making", "Making.faults_of", false⟩
/-- Making.lay_down -/
def b8 : S := (.seq (.for_ (.many [3, 4]) (.iSeq (.var 2)) (.seq (.setIx (.fld "owners" (.var 0)) (.var 3) (.var 1)) (.seq (.setIx (.fld "contents" (.var 0)) (.var 3) (.var 4)) .skip))) .skip)
def d8 : Df := ⟨"lay_down", ["self", "rule", "lay"], ["self", "rule", "lay", "file", "content"], b8, some "Making", "Making.lay_down", false⟩
/-- Making.finish -/
def b9 : S := (.seq (.asg 3 (.call 3 (.cons (.var 2) .nil))) (.seq (.asg 4 (.meth "Making" "faults_of" 7 (.var 0) (.cons (.var 1) (.cons (.var 3) .nil)))) (.seq (.ifs (.isN (.var 4)) (.seq (.expr (.meth "Making" "lay_down" 8 (.var 0) (.cons (.var 1) (.cons (.var 3) .nil)))) (.seq (.setIx (.fld "done" (.var 0)) (.var 1) (.var 2)) (.seq (.expr (.mth .append (.fld "order" (.var 0)) (.cons (.var 1) .nil))) .skip))) .skip) (.seq (.ret (.var 4)) .skip))))
def d9 : Df := ⟨"finish", ["self", "rule", "trace"], ["self", "rule", "trace", "lay", "broken"], b9, some "Making", "Making.finish", false⟩
/-- Making.laid_files -/
def b10 : S := (.seq (.ret (.blt .tuple (.cons (.comp [("file", 1)] (.one 1) (.iSeq (.blt .sorted (.cons (.fld "owners" (.var 0)) .nil))) .nil (.tup (.cons (.var 1) (.cons (.ix (.fld "contents" (.var 0)) (.var 1)) (.cons (.ix (.fld "owners" (.var 0)) (.var 1)) .nil))))) .nil))) .skip)
def d10 : Df := ⟨"laid_files", ["self"], ["self", "file"], b10, some "Making", "Making.laid_files", false⟩
/-- Making.done_traces -/
def b11 : S := (.seq (.ret (.blt .tuple (.cons (.comp [("rule", 1)] (.one 1) (.iSeq (.fld "order" (.var 0))) .nil (.tup (.cons (.var 1) (.cons (.ix (.fld "done" (.var 0)) (.var 1)) .nil)))) .nil))) .skip)
def d11 : Df := ⟨"done_traces", ["self"], ["self", "rule"], b11, some "Making", "Making.done_traces", false⟩
/-- Frame.__init__ -/
def b12 : S := (.seq (.setF "Frame" "rule" (.var 0) (.var 1)) (.seq (.setF "Frame" "at" (.var 0) (.var 2)) (.seq (.setF "Frame" "events" (.var 0) (.lst .nil)) (.seq (.setF "Frame" "own" (.var 0) (.dnew false)) .skip))))
def d12 : Df := ⟨"__init__", ["self", "rule", "body"], ["self", "rule", "body"], b12, some "Frame", "Frame.__init__", false⟩
/-- step_frame -/
def b13 : S := (.seq (.asg 2 (.ix (.fld "at" (.var 1)) (.int 0))) (.seq (.expr (.mth .append (.fld "moves" (.var 0)) (.cons (.fld "rule" (.var 1)) .nil))) (.seq (.ifs (.cmp .eq (.var 2) (.str "put")) (.seq (.setIx (.fld "own" (.var 1)) (.ix (.fld "at" (.var 1)) (.int 1)) (.ix (.fld "at" (.var 1)) (.int 2))) (.seq (.expr (.mth .append (.fld "events" (.var 1)) (.cons (.tup (.cons (.str "put") (.cons (.ix (.fld "at" (.var 1)) (.int 1)) (.cons (.ix (.fld "at" (.var 1)) (.int 2)) .nil)))) .nil))) (.seq (.setF "Frame" "at" (.var 1) (.ix (.fld "at" (.var 1)) (.int 3))) (.seq (.ret (.int 0)) .skip)))) .skip) (.seq (.asg 3 (.meth "Making" "look" 5 (.var 0) (.cons (.fld "rule" (.var 1)) (.cons (.fld "own" (.var 1)) (.cons (.ix (.fld "at" (.var 1)) (.int 1)) .nil))))) (.seq (.ifs (.cmp .eq (.var 3) (.neg (.int 2))) (.seq (.ret (.neg (.int 2))) .skip) .skip) (.seq (.expr (.mth .append (.fld "events" (.var 1)) (.cons (.tup (.cons (.str "see") (.cons (.ix (.fld "at" (.var 1)) (.int 1)) (.cons (.var 3) .nil)))) .nil))) (.seq (.setF "Frame" "at" (.var 1) (.ix (.ix (.fld "at" (.var 1)) (.int 2)) (.bin .add (.var 3) (.int 1)))) (.seq (.ret (.int 0)) .skip))))))))
def d13 : Df := { name := "step_frame", ps := ["making", "frame"], N := ["making", "frame", "word", "content"], b := b13 }
/-- run_goal -/
def b14 : S := (.seq (.asg 2 (.lst (.cons (.call 15 (.cons (.var 0) (.cons (.var 1) .nil))) .nil))) (.seq (.whl (.var 2) (.seq (.asg 3 (.ix (.var 2) (.bin .sub (.blt .len (.cons (.var 2) .nil)) (.int 1)))) (.seq (.asg 4 (.ix (.fld "at" (.var 3)) (.int 0))) (.seq (.ifs (.cmp .eq (.var 4) (.str "done")) (.seq (.expr (.mth .append (.fld "moves" (.var 0)) (.cons (.fld "rule" (.var 3)) .nil))) (.seq (.asg 5 (.meth "Making" "finish" 9 (.var 0) (.cons (.fld "rule" (.var 3)) (.cons (.blt .tuple (.cons (.fld "events" (.var 3)) .nil)) .nil)))) (.seq (.ifs (.notN (.var 5)) (.seq (.ret (.var 5)) .skip) .skip) (.seq (.expr (.mth .pop (.var 2) .nil)) .skip)))) (.seq (.ifs (.cmp .eq (.var 4) (.str "ask")) (.seq (.asg 6 (.ix (.fld "at" (.var 3)) (.int 1))) (.seq (.asg 7 (.comp [("one", 8)] (.one 8) (.iSeq (.var 2)) .nil (.fld "rule" (.var 8)))) (.seq (.ifs (.cmp .isin (.var 6) (.fld "done" (.var 0))) (.seq (.expr (.mth .append (.fld "moves" (.var 0)) (.cons (.fld "rule" (.var 3)) .nil))) (.seq (.expr (.mth .append (.fld "events" (.var 3)) (.cons (.tup (.cons (.str "ask") (.cons (.var 6) .nil))) .nil))) (.seq (.setF "Frame" "at" (.var 3) (.ix (.fld "at" (.var 3)) (.int 2))) .skip))) (.seq (.ifs (.cmp .isin (.var 6) (.var 7)) (.seq (.ret (.tup (.cons (.str "stuck") (.cons (.blt .tuple (.cons (.slice (.var 7) (.mth .index (.var 7) (.cons (.var 6) .nil)) .nil) .nil)) .nil)))) .skip) (.seq (.expr (.mth .append (.var 2) (.cons (.call 15 (.cons (.var 0) (.cons (.var 6) .nil))) .nil))) .skip)) .skip)) .skip))) (.seq (.ifs (.cmp .eq (.call 13 (.cons (.var 0) (.cons (.var 3) .nil))) (.neg (.int 2))) (.seq (.ret (.tup (.cons (.str "looks") (.cons (.tidx (.ix (.fld "rulebook" (.var 0)) (.int 1)) (.ix (.fld "at" (.var 3)) (.int 1))) .nil)))) .skip) .skip) .skip)) .skip)) .skip)))) (.seq (.ret .non) .skip)))
def d14 : Df := { name := "run_goal", ps := ["making", "goal"], N := ["making", "goal", "stack", "frame", "word", "broken", "asked", "under", "one"], b := b14 }
/-- begin -/
def b15 : S := (.seq (.expr (.mth .append (.fld "moves" (.var 0)) (.cons (.var 1) .nil))) (.seq (.ret (.make "Frame" 12 (.cons (.var 1) (.cons (.call 1 (.cons (.fld "rulebook" (.var 0)) (.cons (.var 1) .nil))) .nil)))) .skip))
def d15 : Df := { name := "begin", ps := ["making", "rule"], N := ["making", "rule"], b := b15 }
/-- run_goals -/
def b16 : S := (.seq (.for_ (.one 2) (.iSeq (.var 1)) (.seq (.ifs (.cmp .notin (.var 2) (.fld "done" (.var 0))) (.seq (.asg 3 (.call 14 (.cons (.var 0) (.cons (.var 2) .nil)))) (.seq (.ifs (.notN (.var 3)) (.seq (.ret (.var 3)) .skip) .skip) .skip)) .skip) .skip)) (.seq (.ret (.tup (.cons (.str "done") .nil))) .skip))
def d16 : Df := { name := "run_goals", ps := ["making", "goals"], N := ["making", "goals", "goal", "ended"], b := b16 }
/-- make_partial -/
def b17 : S := (.seq (.asg 3 (.make "Making" 4 (.cons (.var 0) (.cons (.var 1) .nil)))) (.seq (.asg 4 (.call 16 (.cons (.var 3) (.cons (.var 2) .nil)))) (.seq (.ret (.tup (.cons (.var 4) (.cons (.meth "Making" "laid_files" 10 (.var 3) .nil) (.cons (.meth "Making" "done_traces" 11 (.var 3) .nil) (.cons (.blt .tuple (.cons (.fld "moves" (.var 3)) .nil)) .nil)))))) .skip)))
def d17 : Df := { name := "make_partial", ps := ["book", "partial", "goals"], N := ["book", "partial", "goals", "making", "outcome"], b := b17 }
/-- make -/
def b18 : S := (.seq (.ret (.call 17 (.cons (.var 0) (.cons (.var 1) (.cons (.var 2) .nil))))) .skip)
def d18 : Df := { name := "make", ps := ["book", "world", "goals"], N := ["book", "world", "goals"], b := b18 }
/-- alone_partial -/
def b19 : S := (.seq (.asg 3 (.make "Making" 4 (.cons (.var 0) (.cons (.var 1) .nil)))) (.seq (.asg 4 (.call 16 (.cons (.var 3) (.cons (.tup (.cons (.var 2) .nil)) .nil)))) (.seq (.ifs (.cmp .ne (.var 4) (.tup (.cons (.str "done") .nil))) (.seq (.ret (.tup (.cons (.var 4) (.cons (.tup .nil) .nil)))) .skip) .skip) (.seq (.ret (.tup (.cons (.var 4) (.cons (.ix (.fld "done" (.var 3)) (.var 2)) .nil)))) .skip))))
def d19 : Df := { name := "alone_partial", ps := ["book", "partial", "rule"], N := ["book", "partial", "rule", "making", "outcome"], b := b19 }
/-- alone -/
def b20 : S := (.seq (.ret (.call 19 (.cons (.var 0) (.cons (.var 1) (.cons (.var 2) .nil))))) .skip)
def d20 : Df := { name := "alone", ps := ["book", "world", "rule"], N := ["book", "world", "rule"], b := b20 }
/-- _law_begin -/
def b21 : S := (.seq (.ret (.lst (.cons (.comp [("cell", 1)] (.one 1) (.iSeq (.var 0)) .nil (.blt .int (.cons (.var 1) .nil))) (.cons (.int 0) (.cons (.int 0) (.cons (.int 7) .nil)))))) .skip)
def d21 : Df := { name := "_law_begin", ps := ["script"], N := ["script", "cell"], b := b21 }
/-- _law_draw -/
def b22 : S := (.seq (.ifs (.cmp .gt (.ix (.var 0) (.int 2)) (.int 0)) (.seq (.asg 2 (.ix (.var 0) (.int 2))) (.seq (.setIx (.var 0) (.int 2) (.bin .fdiv (.var 2) (.var 1))) (.seq (.ret (.bin .mod (.blt .int (.cons (.var 2) .nil)) (.var 1))) .skip))) .skip) (.seq (.asg 3 (.int 0)) (.seq (.ifs (.cmp .lt (.ix (.var 0) (.int 1)) (.blt .len (.cons (.ix (.var 0) (.int 0)) .nil))) (.seq (.asg 4 (.ix (.ix (.var 0) (.int 0)) (.ix (.var 0) (.int 1)))) (.seq (.asg 3 (.bin .add (.bin .mul (.int 2) (.blt .abs (.cons (.var 4) .nil))) (.blt .int (.cons (.cmp .lt (.var 4) (.int 0)) .nil)))) .skip)) .skip) (.seq (.augIx (.var 0) (.int 1) .add (.int 1)) (.seq (.ifs (.cmp .ge (.var 3) (.bin .mul (.int 2) (.bin .pow (.int 10) (.int 18)))) (.seq (.asg 2 (.bin .mod (.blt .int (.cons (.bin .fdiv (.var 3) (.int 2)) .nil)) (.bin .shl (.int 1) (.int 6000)))) (.seq (.setIx (.var 0) (.int 2) (.bin .fdiv (.var 2) (.var 1))) (.seq (.ret (.bin .mod (.blt .int (.cons (.var 2) .nil)) (.var 1))) .skip))) .skip) (.seq (.setIx (.var 0) (.int 3) (.bin .mod (.blt .int (.cons (.bin .add (.bin .add (.bin .add (.bin .mul (.ix (.var 0) (.int 3)) (.int 48271)) (.bin .mul (.bin .mod (.blt .int (.cons (.var 3) .nil)) (.int 2147483629)) (.int 16807))) (.bin .mul (.ix (.var 0) (.int 1)) (.int 69621))) (.int 11)) .nil)) (.int 2147483647))) (.seq (.ret (.bin .mod (.blt .int (.cons (.bin .fdiv (.ix (.var 0) (.int 3)) (.int 16)) .nil)) (.var 1))) .skip)))))))
def d22 : Df := { name := "_law_draw", ps := ["d", "many"], N := ["d", "many", "found", "size", "cell"], b := b22 }
/-- _law_pick -/
def b23 : S := (.seq (.ret (.ix (.var 1) (.call 22 (.cons (.var 0) (.cons (.blt .len (.cons (.var 1) .nil)) .nil))))) .skip)
def d23 : Df := { name := "_law_pick", ps := ["d", "row"], N := ["d", "row"], b := b23 }
/-- _law_rare -/
def b24 : S := (.seq (.ret (.cmp .eq (.call 22 (.cons (.var 0) (.cons (.var 1) .nil))) (.bin .fdiv (.var 1) (.int 2)))) .skip)
def d24 : Df := { name := "_law_rare", ps := ["d", "many"], N := ["d", "many"], b := b24 }
/-- _law_shuffled -/
def b25 : S := (.seq (.asg 2 (.blt .list (.cons (.var 1) .nil))) (.seq (.asg 3 (.lst .nil)) (.seq (.for_ (.one 4) (.iRange (.blt .len (.cons (.var 2) .nil))) (.seq (.expr (.mth .append (.var 3) (.cons (.mth .popAt (.var 2) (.cons (.call 22 (.cons (.var 0) (.cons (.blt .len (.cons (.var 2) .nil)) .nil))) .nil)) .nil))) .skip)) (.seq (.ret (.var 3)) .skip))))
def d25 : Df := { name := "_law_shuffled", ps := ["d", "row"], N := ["d", "row", "left", "found", "k"], b := b25 }
/-- _law_world -/
def b26 : S := (.seq (.ret (.blt .tuple (.cons (.comp [("name", 2)] (.one 2) (.iSeq (.ix (.var 1) (.int 1))) .nil (.bin .sub (.call 22 (.cons (.var 0) (.cons (.bin .add (.ix (.var 1) (.int 0)) (.int 1)) .nil))) (.int 1))) .nil))) .skip)
def d26 : Df := { name := "_law_world", ps := ["d", "book"], N := ["d", "book", "name"], b := b26 }
/-- _law_lay -/
def b27 : S := (.seq (.asg 1 (.lst .nil)) (.seq (.asg 2 (.dnew false)) (.seq (.for_ (.one 3) (.iSeq (.var 0)) (.seq (.ifs (.cmp .eq (.ix (.var 3) (.int 0)) (.str "put")) (.seq (.ifs (.cmp .notin (.ix (.var 3) (.int 1)) (.var 1)) (.seq (.expr (.mth .append (.var 1) (.cons (.ix (.var 3) (.int 1)) .nil))) .skip) .skip) (.seq (.setIx (.var 2) (.ix (.var 3) (.int 1)) (.ix (.var 3) (.int 2))) .skip)) .skip) .skip)) (.seq (.ret (.blt .tuple (.cons (.comp [("file", 4)] (.one 4) (.iSeq (.var 1)) .nil (.tup (.cons (.var 4) (.cons (.ix (.var 2) (.var 4)) .nil)))) .nil))) .skip))))
def d27 : Df := { name := "_law_lay", ps := ["trace"], N := ["trace", "files", "last", "event", "file"], b := b27 }
/-- _law_body_of -/
def b28 : S := (.seq (.for_ (.one 2) (.iSeq (.ix (.var 0) (.int 2))) (.seq (.ifs (.cmp .eq (.ix (.var 2) (.int 0)) (.var 1)) (.seq (.ret (.ix (.var 2) (.int 1))) .skip) .skip) .skip)) (.seq (.ret .non) .skip))
def d28 : Df := { name := "_law_body_of", ps := ["book", "rule"], N := ["book", "rule", "row"], b := b28 }
/-- _law_seen -/
def b29 : S := (.seq (.ifs (.cmp .isin (.var 4) (.ix (.var 3) (.int 3))) (.seq (.ret (.ix (.ix (.var 3) (.int 3)) (.var 4))) .skip) .skip) (.seq (.asg 5 (.setdef (.ix (.var 2) (.int 3)) (.var 4) (.lst .nil))) (.seq (.expr (.mth .append (.var 5) (.cons (.ix (.var 3) (.int 0)) .nil))) (.seq (.ifs (.cmp .isin (.var 4) (.ix (.var 0) (.int 1))) (.seq (.ret (.ix (.var 1) (.tidx (.ix (.var 0) (.int 1)) (.var 4)))) .skip) .skip) (.seq (.ret (.dget (.ix (.var 2) (.int 1)) (.var 4) (.neg (.int 1)))) .skip)))))
def d29 : Df := { name := "_law_seen", ps := ["book", "world", "st", "top", "file"], N := ["book", "world", "st", "top", "file", "row"], b := b29 }
/-- _law_broken -/
def b30 : S := (.seq (.for_ (.one 4) (.iSeq (.call 27 (.cons (.var 3) .nil))) (.seq (.ifs (.cmp .isin (.ix (.var 4) (.int 0)) (.ix (.var 0) (.int 1))) (.seq (.ret (.tup (.cons (.str "broken") (.cons (.str "source") (.cons (.ix (.var 4) (.int 0)) (.cons (.var 2) (.cons (.str "") .nil))))))) .skip) .skip) (.seq (.ifs (.cmp .isin (.ix (.var 4) (.int 0)) (.ix (.var 1) (.int 2))) (.seq (.ret (.tup (.cons (.str "broken") (.cons (.str "twice") (.cons (.ix (.var 4) (.int 0)) (.cons (.var 2) (.cons (.ix (.ix (.var 1) (.int 2)) (.ix (.var 4) (.int 0))) .nil))))))) .skip) .skip) (.seq (.for_ (.one 5) (.iSeq (.ix (.var 0) (.int 2))) (.seq (.ifs (.ands (.cons (.cmp .ne (.ix (.var 5) (.int 0)) (.var 2)) (.cons (.cmp .isin (.ix (.var 5) (.int 0)) (.dget (.ix (.var 1) (.int 3)) (.ix (.var 4) (.int 0)) (.lst .nil))) .nil))) (.seq (.ret (.tup (.cons (.str "broken") (.cons (.str "late") (.cons (.ix (.var 4) (.int 0)) (.cons (.var 2) (.cons (.ix (.var 5) (.int 0)) .nil))))))) .skip) .skip) .skip)) .skip)))) (.seq (.ret .non) .skip))
def d30 : Df := { name := "_law_broken", ps := ["book", "st", "rule", "trace"], N := ["book", "st", "rule", "trace", "pair", "row"], b := b30 }
/-- _law_lay_down -/
def b31 : S := (.seq (.asg 4 (.call 30 (.cons (.var 0) (.cons (.var 1) (.cons (.var 2) (.cons (.var 3) .nil)))))) (.seq (.ifs (.isN (.var 4)) (.seq (.for_ (.one 5) (.iSeq (.call 27 (.cons (.var 3) .nil))) (.seq (.setIx (.ix (.var 1) (.int 1)) (.ix (.var 5) (.int 0)) (.ix (.var 5) (.int 1))) (.seq (.setIx (.ix (.var 1) (.int 2)) (.ix (.var 5) (.int 0)) (.var 2)) .skip))) (.seq (.setIx (.ix (.var 1) (.int 0)) (.var 2) (.var 3)) (.seq (.expr (.mth .append (.ix (.var 1) (.int 4)) (.cons (.var 2) .nil))) .skip))) .skip) (.seq (.ret (.var 4)) .skip)))
def d31 : Df := { name := "_law_lay_down", ps := ["book", "st", "rule", "trace"], N := ["book", "st", "rule", "trace", "broken", "pair"], b := b31 }
/-- _law_make_goal -/
def b32 : S := (.seq (.asg 4 (.lst (.cons (.lst (.cons (.var 3) (.cons (.call 28 (.cons (.var 0) (.cons (.var 3) .nil))) (.cons (.lst .nil) (.cons (.dnew false) .nil))))) .nil))) (.seq (.expr (.mth .append (.ix (.var 2) (.int 5)) (.cons (.var 3) .nil))) (.seq (.for_ (.one 5) (.iRange (.int 600)) (.seq (.ifs (.not (.var 4)) (.seq .brk .skip) .skip) (.seq (.asg 6 (.ix (.var 4) (.neg (.int 1)))) (.seq (.asg 7 (.ix (.var 6) (.int 1))) (.seq (.ifs (.ands (.cons (.cmp .eq (.ix (.var 7) (.int 0)) (.str "ask")) (.cons (.cmp .notin (.ix (.var 7) (.int 1)) (.ix (.var 2) (.int 0))) .nil))) (.seq (.asg 8 (.comp [("row", 9)] (.one 9) (.iSeq (.var 4)) .nil (.ix (.var 9) (.int 0)))) (.seq (.ifs (.cmp .isin (.ix (.var 7) (.int 1)) (.var 8)) (.seq (.ret (.tup (.cons (.str "stuck") (.cons (.blt .tuple (.cons (.slice (.var 8) (.mth .index (.var 8) (.cons (.ix (.var 7) (.int 1)) .nil)) .nil) .nil)) .nil)))) .skip) .skip) (.seq (.expr (.mth .append (.var 4) (.cons (.lst (.cons (.ix (.var 7) (.int 1)) (.cons (.call 28 (.cons (.var 0) (.cons (.ix (.var 7) (.int 1)) .nil))) (.cons (.lst .nil) (.cons (.dnew false) .nil))))) .nil))) (.seq (.expr (.mth .append (.ix (.var 2) (.int 5)) (.cons (.ix (.var 7) (.int 1)) .nil))) (.seq .cnt .skip))))) .skip) (.seq (.expr (.mth .append (.ix (.var 2) (.int 5)) (.cons (.ix (.var 6) (.int 0)) .nil))) (.seq (.ifs (.cmp .eq (.ix (.var 7) (.int 0)) (.str "done")) (.seq (.asg 10 (.call 31 (.cons (.var 0) (.cons (.var 2) (.cons (.ix (.var 6) (.int 0)) (.cons (.blt .tuple (.cons (.ix (.var 6) (.int 2)) .nil)) .nil)))))) (.seq (.ifs (.notN (.var 10)) (.seq (.ret (.var 10)) .skip) .skip) (.seq (.expr (.mth .pop (.var 4) .nil)) .skip))) (.seq (.ifs (.cmp .eq (.ix (.var 7) (.int 0)) (.str "ask")) (.seq (.expr (.mth .append (.ix (.var 6) (.int 2)) (.cons (.tup (.cons (.str "ask") (.cons (.ix (.var 7) (.int 1)) .nil))) .nil))) (.seq (.setIx (.var 6) (.int 1) (.ix (.var 7) (.int 2))) .skip)) (.seq (.ifs (.cmp .eq (.ix (.var 7) (.int 0)) (.str "put")) (.seq (.setIx (.ix (.var 6) (.int 3)) (.ix (.var 7) (.int 1)) (.ix (.var 7) (.int 2))) (.seq (.expr (.mth .append (.ix (.var 6) (.int 2)) (.cons (.tup (.cons (.str "put") (.cons (.ix (.var 7) (.int 1)) (.cons (.ix (.var 7) (.int 2)) .nil)))) .nil))) (.seq (.setIx (.var 6) (.int 1) (.ix (.var 7) (.int 3))) .skip))) (.seq (.asg 11 (.call 29 (.cons (.var 0) (.cons (.var 1) (.cons (.var 2) (.cons (.var 6) (.cons (.ix (.var 7) (.int 1)) .nil))))))) (.seq (.ifs (.cmp .eq (.var 11) (.neg (.int 2))) (.seq (.ret (.tup (.cons (.str "looks") (.cons (.tidx (.ix (.var 0) (.int 1)) (.ix (.var 7) (.int 1))) .nil)))) .skip) .skip) (.seq (.expr (.mth .append (.ix (.var 6) (.int 2)) (.cons (.tup (.cons (.str "see") (.cons (.ix (.var 7) (.int 1)) (.cons (.var 11) .nil)))) .nil))) (.seq (.setIx (.var 6) (.int 1) (.ix (.ix (.var 7) (.int 2)) (.bin .add (.var 11) (.int 1)))) .skip))))) .skip)) .skip)) .skip))))))) (.seq (.ret (.tup (.cons (.str "done") .nil))) .skip))))
def d32 : Df := { name := "_law_make_goal", ps := ["book", "world", "st", "goal"], N := ["book", "world", "st", "goal", "stack", "turn", "top", "node", "under", "row", "broken", "content"], b := b32 }
/-- _law_make -/
def b33 : S := (.seq (.asg 3 (.lst (.cons (.dnew false) (.cons (.dnew false) (.cons (.dnew false) (.cons (.dnew false) (.cons (.lst .nil) (.cons (.lst .nil) .nil)))))))) (.seq (.asg 4 (.tup (.cons (.str "done") .nil))) (.seq (.for_ (.one 5) (.iSeq (.var 2)) (.seq (.ifs (.ands (.cons (.cmp .notin (.var 5) (.ix (.var 3) (.int 0))) (.cons (.cmp .eq (.var 4) (.tup (.cons (.str "done") .nil))) .nil))) (.seq (.asg 4 (.call 32 (.cons (.var 0) (.cons (.var 1) (.cons (.var 3) (.cons (.var 5) .nil)))))) .skip) .skip) .skip)) (.seq (.asg 6 (.blt .tuple (.cons (.comp [("file", 7)] (.one 7) (.iSeq (.blt .sorted (.cons (.ix (.var 3) (.int 2)) .nil))) .nil (.tup (.cons (.var 7) (.cons (.ix (.ix (.var 3) (.int 1)) (.var 7)) (.cons (.ix (.ix (.var 3) (.int 2)) (.var 7)) .nil))))) .nil))) (.seq (.asg 8 (.blt .tuple (.cons (.comp [("rule", 9)] (.one 9) (.iSeq (.ix (.var 3) (.int 4))) .nil (.tup (.cons (.var 9) (.cons (.ix (.ix (.var 3) (.int 0)) (.var 9)) .nil)))) .nil))) (.seq (.ret (.tup (.cons (.var 4) (.cons (.var 6) (.cons (.var 8) (.cons (.blt .tuple (.cons (.ix (.var 3) (.int 5)) .nil)) .nil)))))) .skip))))))
def d33 : Df := { name := "_law_make", ps := ["book", "world", "goals"], N := ["book", "world", "goals", "st", "outcome", "goal", "laid", "file", "traces", "rule"], b := b33 }
/-- _law_alone -/
def b34 : S := (.seq (.asg 3 (.call 33 (.cons (.var 0) (.cons (.var 1) (.cons (.tup (.cons (.var 2) .nil)) .nil))))) (.seq (.ifs (.cmp .ne (.ix (.var 3) (.int 0)) (.tup (.cons (.str "done") .nil))) (.seq (.ret (.tup (.cons (.ix (.var 3) (.int 0)) (.cons (.tup .nil) .nil)))) .skip) .skip) (.seq (.ret (.tup (.cons (.ix (.var 3) (.int 0)) (.cons (.ix (.ix (.ix (.var 3) (.int 2)) (.bin .sub (.blt .len (.cons (.ix (.var 3) (.int 2)) .nil)) (.int 1))) (.int 1)) .nil)))) .skip)))
def d34 : Df := { name := "_law_alone", ps := ["book", "world", "rule"], N := ["book", "world", "rule", "told"], b := b34 }
/-- _law_chain -/
def b35 : S := (.seq (.asg 2 (.tup (.cons (.str "done") .nil))) (.seq (.for_ (.one 3) (.iRev (.var 0)) (.seq (.ifs (.cmp .eq (.ix (.var 3) (.int 0)) (.str "see")) (.seq (.asg 2 (.tup (.cons (.str "see") (.cons (.ix (.var 3) (.int 1)) (.cons (.blt .tuple (.cons (.bin .mul (.lst (.cons (.var 2) .nil)) (.bin .add (.var 1) (.int 1))) .nil)) .nil))))) .skip) (.seq (.ifs (.cmp .eq (.ix (.var 3) (.int 0)) (.str "ask")) (.seq (.asg 2 (.tup (.cons (.str "ask") (.cons (.ix (.var 3) (.int 1)) (.cons (.var 2) .nil))))) .skip) (.seq (.asg 2 (.tup (.cons (.str "put") (.cons (.ix (.var 3) (.int 1)) (.cons (.ix (.var 3) (.int 2)) (.cons (.var 2) .nil)))))) .skip)) .skip)) .skip)) (.seq (.ret (.var 2)) .skip)))
def d35 : Df := { name := "_law_chain", ps := ["events", "kinds"], N := ["events", "kinds", "body", "event"], b := b35 }
/-- _law_some -/
def b36 : S := (.seq (.ret (.slice (.call 25 (.cons (.var 0) (.cons (.var 1) .nil))) .nil (.call 22 (.cons (.var 0) (.cons (.bin .add (.var 2) (.int 1)) .nil))))) .skip)
def d36 : Df := { name := "_law_some", ps := ["d", "row", "most"], N := ["d", "row", "most"], b := b36 }
/-- _law_events -/
def b37 : S := (.seq (.asg 5 (.comp [("file", 6)] (.one 6) (.iSeq (.call 36 (.cons (.var 0) (.cons (.var 3) (.cons (.int 2) .nil))))) .nil (.tup (.cons (.str "see") (.cons (.var 6) .nil))))) (.seq (.asg 5 (.call 25 (.cons (.var 0) (.cons (.bin .add (.var 5) (.comp [("name", 7)] (.one 7) (.iSeq (.var 2)) .nil (.tup (.cons (.str "ask") (.cons (.var 7) .nil))))) .nil)))) (.seq (.ret (.bin .add (.var 5) (.comp [("file", 6)] (.one 6) (.iSeq (.var 4)) .nil (.tup (.cons (.str "put") (.cons (.var 6) (.cons (.call 22 (.cons (.var 0) (.cons (.var 1) .nil))) .nil))))))) .skip)))
def d37 : Df := { name := "_law_events", ps := ["d", "kinds", "asked", "seen", "put"], N := ["d", "kinds", "asked", "seen", "put", "row", "file", "name"], b := b37 }
/-- law -/
def b38 : S := (.seq (.asg 1 (.call 21 (.cons (.var 0) .nil))) (.seq (.asg 2 (.bin .add (.int 1) (.call 22 (.cons (.var 1) (.cons (.int 2) .nil))))) (.seq (.asg 3 (.lst (.cons (.str "x") (.cons (.str "y") (.cons (.str "z") (.cons (.str "w") .nil)))))) (.seq (.asg 4 (.cmp .eq (.call 22 (.cons (.var 1) (.cons (.int 3) .nil))) (.int 1))) (.seq (.asg 5 (.call 37 (.cons (.var 1) (.cons (.var 2) (.cons (.ite (.ors (.cons (.var 4) (.cons (.call 24 (.cons (.var 1) (.cons (.int 4) .nil))) .nil))) (.lst (.cons (.str "p") .nil)) (.lst .nil)) (.cons (.var 3) (.cons (.call 36 (.cons (.var 1) (.cons (.var 3) (.cons (.int 2) .nil)))) .nil))))))) (.seq (.asg 6 (.call 37 (.cons (.var 1) (.cons (.var 2) (.cons (.ite (.var 4) (.lst (.cons (.call 23 (.cons (.var 1) (.cons (.lst (.cons (.str "r") (.cons (.str "q") .nil))) .nil))) .nil)) (.lst .nil)) (.cons (.bin .add (.var 3) (.lst (.cons (.str "s") .nil))) (.cons (.call 36 (.cons (.var 1) (.cons (.var 3) (.cons (.int 2) .nil)))) .nil))))))) (.seq (.asg 7 (.call 36 (.cons (.var 1) (.cons (.lst (.cons (.str "q") (.cons (.str "p") .nil))) (.cons (.int 2) .nil))))) (.seq (.asg 8 (.call 36 (.cons (.var 1) (.cons (.var 3) (.cons (.int 3) .nil))))) (.seq (.ifs (.cmp .eq (.call 22 (.cons (.var 1) (.cons (.int 3) .nil))) (.int 1)) (.seq (.asg 8 (.call 25 (.cons (.var 1) (.cons (.bin .add (.var 8) (.lst (.cons (.str "s") .nil))) .nil)))) .skip) .skip) (.seq (.asg 9 (.call 37 (.cons (.var 1) (.cons (.var 2) (.cons (.var 7) (.cons (.bin .add (.var 3) (.lst (.cons (.str "s") .nil))) (.cons (.var 8) .nil))))))) (.seq (.asg 10 (.lst (.cons (.tup (.cons (.str "q") (.cons (.call 35 (.cons (.var 5) (.cons (.var 2) .nil))) .nil))) (.cons (.tup (.cons (.str "p") (.cons (.call 35 (.cons (.var 6) (.cons (.var 2) .nil))) .nil))) (.cons (.tup (.cons (.str "r") (.cons (.call 35 (.cons (.var 9) (.cons (.var 2) .nil))) .nil))) .nil))))) (.seq (.asg 11 (.tup (.cons (.var 2) (.cons (.dtup (.cons (.str "s") .nil)) (.cons (.blt .tuple (.cons (.call 25 (.cons (.var 1) (.cons (.var 10) .nil))) .nil)) .nil))))) (.seq (.for_ (.one 12) (.iRange (.int 3)) (.seq (.asg 13 (.call 26 (.cons (.var 1) (.cons (.var 11) .nil)))) (.seq (.asg 14 (.blt .tuple (.cons (.slice (.call 25 (.cons (.var 1) (.cons (.lst (.cons (.str "q") (.cons (.str "p") (.cons (.str "r") .nil)))) .nil))) .nil (.bin .add (.int 1) (.call 22 (.cons (.var 1) (.cons (.int 3) .nil))))) .nil))) (.seq (.asg 15 (.call 18 (.cons (.var 11) (.cons (.var 13) (.cons (.var 14) .nil))))) (.seq (.asg 16 (.call 33 (.cons (.var 11) (.cons (.var 13) (.cons (.var 14) .nil))))) (.seq (.ifs (.ors (.cons (.cmp .ne (.var 15) (.var 16)) (.cons (.not (.isinst (.ix (.var 15) (.int 0)) "tuple")) .nil))) (.seq (.ret (.bl false)) .skip) .skip) (.seq (.ifs (.cmp .ne (.call 20 (.cons (.var 11) (.cons (.var 13) (.cons (.ix (.var 14) (.int 0)) .nil)))) (.call 34 (.cons (.var 11) (.cons (.var 13) (.cons (.ix (.var 14) (.int 0)) .nil))))) (.seq (.ret (.bl false)) .skip) .skip) (.seq (.asg 17 (.comp [("row", 18)] (.one 18) (.iSeq (.ix (.var 15) (.int 1))) .nil (.ix (.var 18) (.int 2)))) (.seq (.ifs (.not (.blt .all (.cons (.comp [("rule", 19)] (.one 19) (.iSeq (.var 17)) .nil (.cmp .isin (.var 19) (.comp [("row", 18)] (.one 18) (.iSeq (.ix (.var 15) (.int 2))) .nil (.ix (.var 18) (.int 0))))) .nil))) (.seq (.ret (.bl false)) .skip) .skip) .skip))))))))) (.seq (.ret (.bl true)) .skip))))))))))))))
def d38 : Df := { name := "law", ps := ["script"], N := ["script", "d", "kinds", "files", "is_ring", "first", "second", "asked", "put", "third", "rows", "book", "turn", "world", "goals", "told", "due", "laid", "row", "rule"], b := b38 }
def T : List Df := [d0, d1, d2, d3, d4, d5, d6, d7, d8, d9, d10, d11, d12, d13, d14, d15, d16, d17, d18, d19, d20, d21, d22, d23, d24, d25, d26, d27, d28, d29, d30, d31, d32, d33, d34, d35, d36, d37, d38]
def G : Pg := ⟨T, [⟨"Making", some 4, ["rulebook", "around", "done", "order", "owners", "contents", "seen", "moves"], [("look", 5), ("content_of", 6), ("faults_of", 7), ("lay_down", 8), ("finish", 9), ("laid_files", 10), ("done_traces", 11)], []⟩, ⟨"Frame", some 12, ["rule", "at", "events", "own"], [], []⟩], [], []⟩
def top (i : Nat) : Stmt := PySem.Challenge.pw_holdstill_k05_broken_and_stuck.main.body.getD i (.Pass ⟨0, 0, 0, 0⟩)
def sts : List Stmt := [(top 4), (top 5), (top 7), (top 8), (inCls (top 10) 0), (inCls (top 10) 1), (inCls (top 10) 2), (inCls (top 10) 3), (inCls (top 10) 4), (inCls (top 10) 5), (inCls (top 10) 6), (inCls (top 10) 7), (inCls (top 11) 0), (top 12), (top 13), (top 14), (top 15), (top 16), (top 17), (top 18), (top 19), (top 21), (top 22), (top 23), (top 24), (top 25), (top 26), (top 27), (top 28), (top 29), (top 30), (top 31), (top 32), (top 33), (top 34), (top 35), (top 36), (top 37), (top 38)]
theorem ck0 : (nameOf (top 4) = d0.name) ∧ ckF G d0 (top 4) = true := by decide +kernel
theorem bd0 : BindP d0.name d0.qual (top 4) d0.ps := fun _ _ _ _ _ _ us hl => match us, hl with | [_], _ => rfl
theorem ck1 : (nameOf (top 5) = d1.name) ∧ ckF G d1 (top 5) = true := by decide +kernel
theorem bd1 : BindP d1.name d1.qual (top 5) d1.ps := fun _ _ _ _ _ _ us hl => match us, hl with | [_, _], _ => rfl
theorem ck2 : (nameOf (top 7) = d2.name) ∧ ckF G d2 (top 7) = true := by decide +kernel
theorem bd2 : BindP d2.name d2.qual (top 7) d2.ps := fun _ _ _ _ _ _ us hl => match us, hl with | [_, _], _ => rfl
theorem ck3 : (nameOf (top 8) = d3.name) ∧ ckF G d3 (top 8) = true := by decide +kernel
theorem bd3 : BindP d3.name d3.qual (top 8) d3.ps := fun _ _ _ _ _ _ us hl => match us, hl with | [_], _ => rfl
theorem ck4 : (nameOf (inCls (top 10) 0) = d4.name) ∧ ckF G d4 (inCls (top 10) 0) = true := by decide +kernel
theorem bd4 : BindP d4.name d4.qual (inCls (top 10) 0) d4.ps := fun _ _ _ _ _ _ us hl => match us, hl with | [_, _, _], _ => rfl
theorem ck5 : (nameOf (inCls (top 10) 1) = d5.name) ∧ ckF G d5 (inCls (top 10) 1) = true := by decide +kernel
theorem bd5 : BindP d5.name d5.qual (inCls (top 10) 1) d5.ps := fun _ _ _ _ _ _ us hl => match us, hl with | [_, _, _, _], _ => rfl
theorem ck6 : (nameOf (inCls (top 10) 2) = d6.name) ∧ ckF G d6 (inCls (top 10) 2) = true := by decide +kernel
theorem bd6 : BindP d6.name d6.qual (inCls (top 10) 2) d6.ps := fun _ _ _ _ _ _ us hl => match us, hl with | [_, _], _ => rfl
theorem ck7 : (nameOf (inCls (top 10) 3) = d7.name) ∧ ckF G d7 (inCls (top 10) 3) = true := by decide +kernel
theorem bd7 : BindP d7.name d7.qual (inCls (top 10) 3) d7.ps := fun _ _ _ _ _ _ us hl => match us, hl with | [_, _, _], _ => rfl
theorem ck8 : (nameOf (inCls (top 10) 4) = d8.name) ∧ ckF G d8 (inCls (top 10) 4) = true := by decide +kernel
theorem bd8 : BindP d8.name d8.qual (inCls (top 10) 4) d8.ps := fun _ _ _ _ _ _ us hl => match us, hl with | [_, _, _], _ => rfl
theorem ck9 : (nameOf (inCls (top 10) 5) = d9.name) ∧ ckF G d9 (inCls (top 10) 5) = true := by decide +kernel
theorem bd9 : BindP d9.name d9.qual (inCls (top 10) 5) d9.ps := fun _ _ _ _ _ _ us hl => match us, hl with | [_, _, _], _ => rfl
theorem ck10 : (nameOf (inCls (top 10) 6) = d10.name) ∧ ckF G d10 (inCls (top 10) 6) = true := by decide +kernel
theorem bd10 : BindP d10.name d10.qual (inCls (top 10) 6) d10.ps := fun _ _ _ _ _ _ us hl => match us, hl with | [_], _ => rfl
theorem ck11 : (nameOf (inCls (top 10) 7) = d11.name) ∧ ckF G d11 (inCls (top 10) 7) = true := by decide +kernel
theorem bd11 : BindP d11.name d11.qual (inCls (top 10) 7) d11.ps := fun _ _ _ _ _ _ us hl => match us, hl with | [_], _ => rfl
theorem ck12 : (nameOf (inCls (top 11) 0) = d12.name) ∧ ckF G d12 (inCls (top 11) 0) = true := by decide +kernel
theorem bd12 : BindP d12.name d12.qual (inCls (top 11) 0) d12.ps := fun _ _ _ _ _ _ us hl => match us, hl with | [_, _, _], _ => rfl
theorem ck13 : (nameOf (top 12) = d13.name) ∧ ckF G d13 (top 12) = true := by decide +kernel
theorem bd13 : BindP d13.name d13.qual (top 12) d13.ps := fun _ _ _ _ _ _ us hl => match us, hl with | [_, _], _ => rfl
theorem ck14 : (nameOf (top 13) = d14.name) ∧ ckF G d14 (top 13) = true := by decide +kernel
theorem bd14 : BindP d14.name d14.qual (top 13) d14.ps := fun _ _ _ _ _ _ us hl => match us, hl with | [_, _], _ => rfl
theorem ck15 : (nameOf (top 14) = d15.name) ∧ ckF G d15 (top 14) = true := by decide +kernel
theorem bd15 : BindP d15.name d15.qual (top 14) d15.ps := fun _ _ _ _ _ _ us hl => match us, hl with | [_, _], _ => rfl
theorem ck16 : (nameOf (top 15) = d16.name) ∧ ckF G d16 (top 15) = true := by decide +kernel
theorem bd16 : BindP d16.name d16.qual (top 15) d16.ps := fun _ _ _ _ _ _ us hl => match us, hl with | [_, _], _ => rfl
theorem ck17 : (nameOf (top 16) = d17.name) ∧ ckF G d17 (top 16) = true := by decide +kernel
theorem bd17 : BindP d17.name d17.qual (top 16) d17.ps := fun _ _ _ _ _ _ us hl => match us, hl with | [_, _, _], _ => rfl
theorem ck18 : (nameOf (top 17) = d18.name) ∧ ckF G d18 (top 17) = true := by decide +kernel
theorem bd18 : BindP d18.name d18.qual (top 17) d18.ps := fun _ _ _ _ _ _ us hl => match us, hl with | [_, _, _], _ => rfl
theorem ck19 : (nameOf (top 18) = d19.name) ∧ ckF G d19 (top 18) = true := by decide +kernel
theorem bd19 : BindP d19.name d19.qual (top 18) d19.ps := fun _ _ _ _ _ _ us hl => match us, hl with | [_, _, _], _ => rfl
theorem ck20 : (nameOf (top 19) = d20.name) ∧ ckF G d20 (top 19) = true := by decide +kernel
theorem bd20 : BindP d20.name d20.qual (top 19) d20.ps := fun _ _ _ _ _ _ us hl => match us, hl with | [_, _, _], _ => rfl
theorem ck21 : (nameOf (top 21) = d21.name) ∧ ckF G d21 (top 21) = true := by decide +kernel
theorem bd21 : BindP d21.name d21.qual (top 21) d21.ps := fun _ _ _ _ _ _ us hl => match us, hl with | [_], _ => rfl
theorem ck22 : (nameOf (top 22) = d22.name) ∧ ckF G d22 (top 22) = true := by decide +kernel
theorem bd22 : BindP d22.name d22.qual (top 22) d22.ps := fun _ _ _ _ _ _ us hl => match us, hl with | [_, _], _ => rfl
theorem ck23 : (nameOf (top 23) = d23.name) ∧ ckF G d23 (top 23) = true := by decide +kernel
theorem bd23 : BindP d23.name d23.qual (top 23) d23.ps := fun _ _ _ _ _ _ us hl => match us, hl with | [_, _], _ => rfl
theorem ck24 : (nameOf (top 24) = d24.name) ∧ ckF G d24 (top 24) = true := by decide +kernel
theorem bd24 : BindP d24.name d24.qual (top 24) d24.ps := fun _ _ _ _ _ _ us hl => match us, hl with | [_, _], _ => rfl
theorem ck25 : (nameOf (top 25) = d25.name) ∧ ckF G d25 (top 25) = true := by decide +kernel
theorem bd25 : BindP d25.name d25.qual (top 25) d25.ps := fun _ _ _ _ _ _ us hl => match us, hl with | [_, _], _ => rfl
theorem ck26 : (nameOf (top 26) = d26.name) ∧ ckF G d26 (top 26) = true := by decide +kernel
theorem bd26 : BindP d26.name d26.qual (top 26) d26.ps := fun _ _ _ _ _ _ us hl => match us, hl with | [_, _], _ => rfl
theorem ck27 : (nameOf (top 27) = d27.name) ∧ ckF G d27 (top 27) = true := by decide +kernel
theorem bd27 : BindP d27.name d27.qual (top 27) d27.ps := fun _ _ _ _ _ _ us hl => match us, hl with | [_], _ => rfl
theorem ck28 : (nameOf (top 28) = d28.name) ∧ ckF G d28 (top 28) = true := by decide +kernel
theorem bd28 : BindP d28.name d28.qual (top 28) d28.ps := fun _ _ _ _ _ _ us hl => match us, hl with | [_, _], _ => rfl
theorem ck29 : (nameOf (top 29) = d29.name) ∧ ckF G d29 (top 29) = true := by decide +kernel
theorem bd29 : BindP d29.name d29.qual (top 29) d29.ps := fun _ _ _ _ _ _ us hl => match us, hl with | [_, _, _, _, _], _ => rfl
theorem ck30 : (nameOf (top 30) = d30.name) ∧ ckF G d30 (top 30) = true := by decide +kernel
theorem bd30 : BindP d30.name d30.qual (top 30) d30.ps := fun _ _ _ _ _ _ us hl => match us, hl with | [_, _, _, _], _ => rfl
theorem ck31 : (nameOf (top 31) = d31.name) ∧ ckF G d31 (top 31) = true := by decide +kernel
theorem bd31 : BindP d31.name d31.qual (top 31) d31.ps := fun _ _ _ _ _ _ us hl => match us, hl with | [_, _, _, _], _ => rfl
theorem ck32 : (nameOf (top 32) = d32.name) ∧ ckF G d32 (top 32) = true := by decide +kernel
theorem bd32 : BindP d32.name d32.qual (top 32) d32.ps := fun _ _ _ _ _ _ us hl => match us, hl with | [_, _, _, _], _ => rfl
theorem ck33 : (nameOf (top 33) = d33.name) ∧ ckF G d33 (top 33) = true := by decide +kernel
theorem bd33 : BindP d33.name d33.qual (top 33) d33.ps := fun _ _ _ _ _ _ us hl => match us, hl with | [_, _, _], _ => rfl
theorem ck34 : (nameOf (top 34) = d34.name) ∧ ckF G d34 (top 34) = true := by decide +kernel
theorem bd34 : BindP d34.name d34.qual (top 34) d34.ps := fun _ _ _ _ _ _ us hl => match us, hl with | [_, _, _], _ => rfl
theorem ck35 : (nameOf (top 35) = d35.name) ∧ ckF G d35 (top 35) = true := by decide +kernel
theorem bd35 : BindP d35.name d35.qual (top 35) d35.ps := fun _ _ _ _ _ _ us hl => match us, hl with | [_, _], _ => rfl
theorem ck36 : (nameOf (top 36) = d36.name) ∧ ckF G d36 (top 36) = true := by decide +kernel
theorem bd36 : BindP d36.name d36.qual (top 36) d36.ps := fun _ _ _ _ _ _ us hl => match us, hl with | [_, _, _], _ => rfl
theorem ck37 : (nameOf (top 37) = d37.name) ∧ ckF G d37 (top 37) = true := by decide +kernel
theorem bd37 : BindP d37.name d37.qual (top 37) d37.ps := fun _ _ _ _ _ _ us hl => match us, hl with | [_, _, _, _, _], _ => rfl
theorem ck38 : (nameOf (top 38) = d38.name) ∧ ckF G d38 (top 38) = true := by decide +kernel
theorem bd38 : BindP d38.name d38.qual (top 38) d38.ps := fun _ _ _ _ _ _ us hl => match us, hl with | [_], _ => rfl
theorem ck : ckT G sts = true := by
  unfold ckT
  rw [Bool.and_eq_true]
  refine ⟨by decide, ?_⟩
  show (List.zip [d0, d1, d2, d3, d4, d5, d6, d7, d8, d9, d10, d11, d12, d13, d14, d15, d16, d17, d18, d19, d20, d21, d22, d23, d24, d25, d26, d27, d28, d29, d30, d31, d32, d33, d34, d35, d36, d37, d38] [(top 4), (top 5), (top 7), (top 8), (inCls (top 10) 0), (inCls (top 10) 1), (inCls (top 10) 2), (inCls (top 10) 3), (inCls (top 10) 4), (inCls (top 10) 5), (inCls (top 10) 6), (inCls (top 10) 7), (inCls (top 11) 0), (top 12), (top 13), (top 14), (top 15), (top 16), (top 17), (top 18), (top 19), (top 21), (top 22), (top 23), (top 24), (top 25), (top 26), (top 27), (top 28), (top 29), (top 30), (top 31), (top 32), (top 33), (top 34), (top 35), (top 36), (top 37), (top 38)]).all _ = true
  simp only [List.zip_cons_cons, List.zip_nil_right, List.all_cons, List.all_nil, Bool.and_true, Bool.and_eq_true, decide_eq_true_eq]
  exact ⟨⟨ck0.1, ck0.2⟩, ⟨ck1.1, ck1.2⟩, ⟨ck2.1, ck2.2⟩, ⟨ck3.1, ck3.2⟩, ⟨ck4.1, ck4.2⟩, ⟨ck5.1, ck5.2⟩, ⟨ck6.1, ck6.2⟩, ⟨ck7.1, ck7.2⟩, ⟨ck8.1, ck8.2⟩, ⟨ck9.1, ck9.2⟩, ⟨ck10.1, ck10.2⟩, ⟨ck11.1, ck11.2⟩, ⟨ck12.1, ck12.2⟩, ⟨ck13.1, ck13.2⟩, ⟨ck14.1, ck14.2⟩, ⟨ck15.1, ck15.2⟩, ⟨ck16.1, ck16.2⟩, ⟨ck17.1, ck17.2⟩, ⟨ck18.1, ck18.2⟩, ⟨ck19.1, ck19.2⟩, ⟨ck20.1, ck20.2⟩, ⟨ck21.1, ck21.2⟩, ⟨ck22.1, ck22.2⟩, ⟨ck23.1, ck23.2⟩, ⟨ck24.1, ck24.2⟩, ⟨ck25.1, ck25.2⟩, ⟨ck26.1, ck26.2⟩, ⟨ck27.1, ck27.2⟩, ⟨ck28.1, ck28.2⟩, ⟨ck29.1, ck29.2⟩, ⟨ck30.1, ck30.2⟩, ⟨ck31.1, ck31.2⟩, ⟨ck32.1, ck32.2⟩, ⟨ck33.1, ck33.2⟩, ⟨ck34.1, ck34.2⟩, ⟨ck35.1, ck35.2⟩, ⟨ck36.1, ck36.2⟩, ⟨ck37.1, ck37.2⟩, ⟨ck38.1, ck38.2⟩⟩
theorem bd : ∀ (i : Nat) (d : Df) (st : Stmt), G.T[i]? = some d → sts[i]? = some st → BindP d.name d.qual st d.ps := fun i d st h1 h2 => by
  match i, h1, h2 with
  | 0, h1, h2 => exact by cases h1; cases h2; exact bd0
  | 1, h1, h2 => exact by cases h1; cases h2; exact bd1
  | 2, h1, h2 => exact by cases h1; cases h2; exact bd2
  | 3, h1, h2 => exact by cases h1; cases h2; exact bd3
  | 4, h1, h2 => exact by cases h1; cases h2; exact bd4
  | 5, h1, h2 => exact by cases h1; cases h2; exact bd5
  | 6, h1, h2 => exact by cases h1; cases h2; exact bd6
  | 7, h1, h2 => exact by cases h1; cases h2; exact bd7
  | 8, h1, h2 => exact by cases h1; cases h2; exact bd8
  | 9, h1, h2 => exact by cases h1; cases h2; exact bd9
  | 10, h1, h2 => exact by cases h1; cases h2; exact bd10
  | 11, h1, h2 => exact by cases h1; cases h2; exact bd11
  | 12, h1, h2 => exact by cases h1; cases h2; exact bd12
  | 13, h1, h2 => exact by cases h1; cases h2; exact bd13
  | 14, h1, h2 => exact by cases h1; cases h2; exact bd14
  | 15, h1, h2 => exact by cases h1; cases h2; exact bd15
  | 16, h1, h2 => exact by cases h1; cases h2; exact bd16
  | 17, h1, h2 => exact by cases h1; cases h2; exact bd17
  | 18, h1, h2 => exact by cases h1; cases h2; exact bd18
  | 19, h1, h2 => exact by cases h1; cases h2; exact bd19
  | 20, h1, h2 => exact by cases h1; cases h2; exact bd20
  | 21, h1, h2 => exact by cases h1; cases h2; exact bd21
  | 22, h1, h2 => exact by cases h1; cases h2; exact bd22
  | 23, h1, h2 => exact by cases h1; cases h2; exact bd23
  | 24, h1, h2 => exact by cases h1; cases h2; exact bd24
  | 25, h1, h2 => exact by cases h1; cases h2; exact bd25
  | 26, h1, h2 => exact by cases h1; cases h2; exact bd26
  | 27, h1, h2 => exact by cases h1; cases h2; exact bd27
  | 28, h1, h2 => exact by cases h1; cases h2; exact bd28
  | 29, h1, h2 => exact by cases h1; cases h2; exact bd29
  | 30, h1, h2 => exact by cases h1; cases h2; exact bd30
  | 31, h1, h2 => exact by cases h1; cases h2; exact bd31
  | 32, h1, h2 => exact by cases h1; cases h2; exact bd32
  | 33, h1, h2 => exact by cases h1; cases h2; exact bd33
  | 34, h1, h2 => exact by cases h1; cases h2; exact bd34
  | 35, h1, h2 => exact by cases h1; cases h2; exact bd35
  | 36, h1, h2 => exact by cases h1; cases h2; exact bd36
  | 37, h1, h2 => exact by cases h1; cases h2; exact bd37
  | 38, h1, h2 => exact by cases h1; cases h2; exact bd38
  | i + 39, h1, _ => cases h1
theorem cs0 {k : Nat} {us : List U} {M : Hm} {Q : QU} (hl : us.length = 1) (h : wS (Cs T k) b0 ⟨fun _ M1 => ∃ M2, Sub M2 M1 ∧ Q .non M2, fun u M1 => ∃ M2, Sub M2 M1 ∧ Q u M2, fun _ _ => False, fun _ _ => False⟩ (startU 2 us) M) : Cs T (k + 1) 0 us M Q := ⟨d0, rfl, hl, h⟩
theorem cs1 {k : Nat} {us : List U} {M : Hm} {Q : QU} (hl : us.length = 2) (h : wS (Cs T k) b1 ⟨fun _ M1 => ∃ M2, Sub M2 M1 ∧ Q .non M2, fun u M1 => ∃ M2, Sub M2 M1 ∧ Q u M2, fun _ _ => False, fun _ _ => False⟩ (startU 4 us) M) : Cs T (k + 1) 1 us M Q := ⟨d1, rfl, hl, h⟩
theorem cs2 {k : Nat} {us : List U} {M : Hm} {Q : QU} (hl : us.length = 2) (h : wS (Cs T k) b2 ⟨fun _ M1 => ∃ M2, Sub M2 M1 ∧ Q .non M2, fun u M1 => ∃ M2, Sub M2 M1 ∧ Q u M2, fun _ _ => False, fun _ _ => False⟩ (startU 4 us) M) : Cs T (k + 1) 2 us M Q := ⟨d2, rfl, hl, h⟩
theorem cs3 {k : Nat} {us : List U} {M : Hm} {Q : QU} (hl : us.length = 1) (h : wS (Cs T k) b3 ⟨fun _ M1 => ∃ M2, Sub M2 M1 ∧ Q .non M2, fun u M1 => ∃ M2, Sub M2 M1 ∧ Q u M2, fun _ _ => False, fun _ _ => False⟩ (startU 3 us) M) : Cs T (k + 1) 3 us M Q := ⟨d3, rfl, hl, h⟩
theorem cs4 {k : Nat} {us : List U} {M : Hm} {Q : QU} (hl : us.length = 3) (h : wS (Cs T k) b4 ⟨fun _ M1 => ∃ M2, Sub M2 M1 ∧ Q .non M2, fun u M1 => ∃ M2, Sub M2 M1 ∧ Q u M2, fun _ _ => False, fun _ _ => False⟩ (startU 3 us) M) : Cs T (k + 1) 4 us M Q := ⟨d4, rfl, hl, h⟩
theorem cs5 {k : Nat} {us : List U} {M : Hm} {Q : QU} (hl : us.length = 4) (h : wS (Cs T k) b5 ⟨fun _ M1 => ∃ M2, Sub M2 M1 ∧ Q .non M2, fun u M1 => ∃ M2, Sub M2 M1 ∧ Q u M2, fun _ _ => False, fun _ _ => False⟩ (startU 4 us) M) : Cs T (k + 1) 5 us M Q := ⟨d5, rfl, hl, h⟩
theorem cs6 {k : Nat} {us : List U} {M : Hm} {Q : QU} (hl : us.length = 2) (h : wS (Cs T k) b6 ⟨fun _ M1 => ∃ M2, Sub M2 M1 ∧ Q .non M2, fun u M1 => ∃ M2, Sub M2 M1 ∧ Q u M2, fun _ _ => False, fun _ _ => False⟩ (startU 4 us) M) : Cs T (k + 1) 6 us M Q := ⟨d6, rfl, hl, h⟩
theorem cs7 {k : Nat} {us : List U} {M : Hm} {Q : QU} (hl : us.length = 3) (h : wS (Cs T k) b7 ⟨fun _ M1 => ∃ M2, Sub M2 M1 ∧ Q .non M2, fun u M1 => ∃ M2, Sub M2 M1 ∧ Q u M2, fun _ _ => False, fun _ _ => False⟩ (startU 6 us) M) : Cs T (k + 1) 7 us M Q := ⟨d7, rfl, hl, h⟩
theorem cs8 {k : Nat} {us : List U} {M : Hm} {Q : QU} (hl : us.length = 3) (h : wS (Cs T k) b8 ⟨fun _ M1 => ∃ M2, Sub M2 M1 ∧ Q .non M2, fun u M1 => ∃ M2, Sub M2 M1 ∧ Q u M2, fun _ _ => False, fun _ _ => False⟩ (startU 5 us) M) : Cs T (k + 1) 8 us M Q := ⟨d8, rfl, hl, h⟩
theorem cs9 {k : Nat} {us : List U} {M : Hm} {Q : QU} (hl : us.length = 3) (h : wS (Cs T k) b9 ⟨fun _ M1 => ∃ M2, Sub M2 M1 ∧ Q .non M2, fun u M1 => ∃ M2, Sub M2 M1 ∧ Q u M2, fun _ _ => False, fun _ _ => False⟩ (startU 5 us) M) : Cs T (k + 1) 9 us M Q := ⟨d9, rfl, hl, h⟩
theorem cs10 {k : Nat} {us : List U} {M : Hm} {Q : QU} (hl : us.length = 1) (h : wS (Cs T k) b10 ⟨fun _ M1 => ∃ M2, Sub M2 M1 ∧ Q .non M2, fun u M1 => ∃ M2, Sub M2 M1 ∧ Q u M2, fun _ _ => False, fun _ _ => False⟩ (startU 2 us) M) : Cs T (k + 1) 10 us M Q := ⟨d10, rfl, hl, h⟩
theorem cs11 {k : Nat} {us : List U} {M : Hm} {Q : QU} (hl : us.length = 1) (h : wS (Cs T k) b11 ⟨fun _ M1 => ∃ M2, Sub M2 M1 ∧ Q .non M2, fun u M1 => ∃ M2, Sub M2 M1 ∧ Q u M2, fun _ _ => False, fun _ _ => False⟩ (startU 2 us) M) : Cs T (k + 1) 11 us M Q := ⟨d11, rfl, hl, h⟩
theorem cs12 {k : Nat} {us : List U} {M : Hm} {Q : QU} (hl : us.length = 3) (h : wS (Cs T k) b12 ⟨fun _ M1 => ∃ M2, Sub M2 M1 ∧ Q .non M2, fun u M1 => ∃ M2, Sub M2 M1 ∧ Q u M2, fun _ _ => False, fun _ _ => False⟩ (startU 3 us) M) : Cs T (k + 1) 12 us M Q := ⟨d12, rfl, hl, h⟩
theorem cs13 {k : Nat} {us : List U} {M : Hm} {Q : QU} (hl : us.length = 2) (h : wS (Cs T k) b13 ⟨fun _ M1 => ∃ M2, Sub M2 M1 ∧ Q .non M2, fun u M1 => ∃ M2, Sub M2 M1 ∧ Q u M2, fun _ _ => False, fun _ _ => False⟩ (startU 4 us) M) : Cs T (k + 1) 13 us M Q := ⟨d13, rfl, hl, h⟩
theorem cs14 {k : Nat} {us : List U} {M : Hm} {Q : QU} (hl : us.length = 2) (h : wS (Cs T k) b14 ⟨fun _ M1 => ∃ M2, Sub M2 M1 ∧ Q .non M2, fun u M1 => ∃ M2, Sub M2 M1 ∧ Q u M2, fun _ _ => False, fun _ _ => False⟩ (startU 9 us) M) : Cs T (k + 1) 14 us M Q := ⟨d14, rfl, hl, h⟩
theorem cs15 {k : Nat} {us : List U} {M : Hm} {Q : QU} (hl : us.length = 2) (h : wS (Cs T k) b15 ⟨fun _ M1 => ∃ M2, Sub M2 M1 ∧ Q .non M2, fun u M1 => ∃ M2, Sub M2 M1 ∧ Q u M2, fun _ _ => False, fun _ _ => False⟩ (startU 2 us) M) : Cs T (k + 1) 15 us M Q := ⟨d15, rfl, hl, h⟩
theorem cs16 {k : Nat} {us : List U} {M : Hm} {Q : QU} (hl : us.length = 2) (h : wS (Cs T k) b16 ⟨fun _ M1 => ∃ M2, Sub M2 M1 ∧ Q .non M2, fun u M1 => ∃ M2, Sub M2 M1 ∧ Q u M2, fun _ _ => False, fun _ _ => False⟩ (startU 4 us) M) : Cs T (k + 1) 16 us M Q := ⟨d16, rfl, hl, h⟩
theorem cs17 {k : Nat} {us : List U} {M : Hm} {Q : QU} (hl : us.length = 3) (h : wS (Cs T k) b17 ⟨fun _ M1 => ∃ M2, Sub M2 M1 ∧ Q .non M2, fun u M1 => ∃ M2, Sub M2 M1 ∧ Q u M2, fun _ _ => False, fun _ _ => False⟩ (startU 5 us) M) : Cs T (k + 1) 17 us M Q := ⟨d17, rfl, hl, h⟩
theorem cs18 {k : Nat} {us : List U} {M : Hm} {Q : QU} (hl : us.length = 3) (h : wS (Cs T k) b18 ⟨fun _ M1 => ∃ M2, Sub M2 M1 ∧ Q .non M2, fun u M1 => ∃ M2, Sub M2 M1 ∧ Q u M2, fun _ _ => False, fun _ _ => False⟩ (startU 3 us) M) : Cs T (k + 1) 18 us M Q := ⟨d18, rfl, hl, h⟩
theorem cs19 {k : Nat} {us : List U} {M : Hm} {Q : QU} (hl : us.length = 3) (h : wS (Cs T k) b19 ⟨fun _ M1 => ∃ M2, Sub M2 M1 ∧ Q .non M2, fun u M1 => ∃ M2, Sub M2 M1 ∧ Q u M2, fun _ _ => False, fun _ _ => False⟩ (startU 5 us) M) : Cs T (k + 1) 19 us M Q := ⟨d19, rfl, hl, h⟩
theorem cs20 {k : Nat} {us : List U} {M : Hm} {Q : QU} (hl : us.length = 3) (h : wS (Cs T k) b20 ⟨fun _ M1 => ∃ M2, Sub M2 M1 ∧ Q .non M2, fun u M1 => ∃ M2, Sub M2 M1 ∧ Q u M2, fun _ _ => False, fun _ _ => False⟩ (startU 3 us) M) : Cs T (k + 1) 20 us M Q := ⟨d20, rfl, hl, h⟩
theorem cs21 {k : Nat} {us : List U} {M : Hm} {Q : QU} (hl : us.length = 1) (h : wS (Cs T k) b21 ⟨fun _ M1 => ∃ M2, Sub M2 M1 ∧ Q .non M2, fun u M1 => ∃ M2, Sub M2 M1 ∧ Q u M2, fun _ _ => False, fun _ _ => False⟩ (startU 2 us) M) : Cs T (k + 1) 21 us M Q := ⟨d21, rfl, hl, h⟩
theorem cs22 {k : Nat} {us : List U} {M : Hm} {Q : QU} (hl : us.length = 2) (h : wS (Cs T k) b22 ⟨fun _ M1 => ∃ M2, Sub M2 M1 ∧ Q .non M2, fun u M1 => ∃ M2, Sub M2 M1 ∧ Q u M2, fun _ _ => False, fun _ _ => False⟩ (startU 5 us) M) : Cs T (k + 1) 22 us M Q := ⟨d22, rfl, hl, h⟩
theorem cs23 {k : Nat} {us : List U} {M : Hm} {Q : QU} (hl : us.length = 2) (h : wS (Cs T k) b23 ⟨fun _ M1 => ∃ M2, Sub M2 M1 ∧ Q .non M2, fun u M1 => ∃ M2, Sub M2 M1 ∧ Q u M2, fun _ _ => False, fun _ _ => False⟩ (startU 2 us) M) : Cs T (k + 1) 23 us M Q := ⟨d23, rfl, hl, h⟩
theorem cs24 {k : Nat} {us : List U} {M : Hm} {Q : QU} (hl : us.length = 2) (h : wS (Cs T k) b24 ⟨fun _ M1 => ∃ M2, Sub M2 M1 ∧ Q .non M2, fun u M1 => ∃ M2, Sub M2 M1 ∧ Q u M2, fun _ _ => False, fun _ _ => False⟩ (startU 2 us) M) : Cs T (k + 1) 24 us M Q := ⟨d24, rfl, hl, h⟩
theorem cs25 {k : Nat} {us : List U} {M : Hm} {Q : QU} (hl : us.length = 2) (h : wS (Cs T k) b25 ⟨fun _ M1 => ∃ M2, Sub M2 M1 ∧ Q .non M2, fun u M1 => ∃ M2, Sub M2 M1 ∧ Q u M2, fun _ _ => False, fun _ _ => False⟩ (startU 5 us) M) : Cs T (k + 1) 25 us M Q := ⟨d25, rfl, hl, h⟩
theorem cs26 {k : Nat} {us : List U} {M : Hm} {Q : QU} (hl : us.length = 2) (h : wS (Cs T k) b26 ⟨fun _ M1 => ∃ M2, Sub M2 M1 ∧ Q .non M2, fun u M1 => ∃ M2, Sub M2 M1 ∧ Q u M2, fun _ _ => False, fun _ _ => False⟩ (startU 3 us) M) : Cs T (k + 1) 26 us M Q := ⟨d26, rfl, hl, h⟩
theorem cs27 {k : Nat} {us : List U} {M : Hm} {Q : QU} (hl : us.length = 1) (h : wS (Cs T k) b27 ⟨fun _ M1 => ∃ M2, Sub M2 M1 ∧ Q .non M2, fun u M1 => ∃ M2, Sub M2 M1 ∧ Q u M2, fun _ _ => False, fun _ _ => False⟩ (startU 5 us) M) : Cs T (k + 1) 27 us M Q := ⟨d27, rfl, hl, h⟩
theorem cs28 {k : Nat} {us : List U} {M : Hm} {Q : QU} (hl : us.length = 2) (h : wS (Cs T k) b28 ⟨fun _ M1 => ∃ M2, Sub M2 M1 ∧ Q .non M2, fun u M1 => ∃ M2, Sub M2 M1 ∧ Q u M2, fun _ _ => False, fun _ _ => False⟩ (startU 3 us) M) : Cs T (k + 1) 28 us M Q := ⟨d28, rfl, hl, h⟩
theorem cs29 {k : Nat} {us : List U} {M : Hm} {Q : QU} (hl : us.length = 5) (h : wS (Cs T k) b29 ⟨fun _ M1 => ∃ M2, Sub M2 M1 ∧ Q .non M2, fun u M1 => ∃ M2, Sub M2 M1 ∧ Q u M2, fun _ _ => False, fun _ _ => False⟩ (startU 6 us) M) : Cs T (k + 1) 29 us M Q := ⟨d29, rfl, hl, h⟩
theorem cs30 {k : Nat} {us : List U} {M : Hm} {Q : QU} (hl : us.length = 4) (h : wS (Cs T k) b30 ⟨fun _ M1 => ∃ M2, Sub M2 M1 ∧ Q .non M2, fun u M1 => ∃ M2, Sub M2 M1 ∧ Q u M2, fun _ _ => False, fun _ _ => False⟩ (startU 6 us) M) : Cs T (k + 1) 30 us M Q := ⟨d30, rfl, hl, h⟩
theorem cs31 {k : Nat} {us : List U} {M : Hm} {Q : QU} (hl : us.length = 4) (h : wS (Cs T k) b31 ⟨fun _ M1 => ∃ M2, Sub M2 M1 ∧ Q .non M2, fun u M1 => ∃ M2, Sub M2 M1 ∧ Q u M2, fun _ _ => False, fun _ _ => False⟩ (startU 6 us) M) : Cs T (k + 1) 31 us M Q := ⟨d31, rfl, hl, h⟩
theorem cs32 {k : Nat} {us : List U} {M : Hm} {Q : QU} (hl : us.length = 4) (h : wS (Cs T k) b32 ⟨fun _ M1 => ∃ M2, Sub M2 M1 ∧ Q .non M2, fun u M1 => ∃ M2, Sub M2 M1 ∧ Q u M2, fun _ _ => False, fun _ _ => False⟩ (startU 12 us) M) : Cs T (k + 1) 32 us M Q := ⟨d32, rfl, hl, h⟩
theorem cs33 {k : Nat} {us : List U} {M : Hm} {Q : QU} (hl : us.length = 3) (h : wS (Cs T k) b33 ⟨fun _ M1 => ∃ M2, Sub M2 M1 ∧ Q .non M2, fun u M1 => ∃ M2, Sub M2 M1 ∧ Q u M2, fun _ _ => False, fun _ _ => False⟩ (startU 10 us) M) : Cs T (k + 1) 33 us M Q := ⟨d33, rfl, hl, h⟩
theorem cs34 {k : Nat} {us : List U} {M : Hm} {Q : QU} (hl : us.length = 3) (h : wS (Cs T k) b34 ⟨fun _ M1 => ∃ M2, Sub M2 M1 ∧ Q .non M2, fun u M1 => ∃ M2, Sub M2 M1 ∧ Q u M2, fun _ _ => False, fun _ _ => False⟩ (startU 4 us) M) : Cs T (k + 1) 34 us M Q := ⟨d34, rfl, hl, h⟩
theorem cs35 {k : Nat} {us : List U} {M : Hm} {Q : QU} (hl : us.length = 2) (h : wS (Cs T k) b35 ⟨fun _ M1 => ∃ M2, Sub M2 M1 ∧ Q .non M2, fun u M1 => ∃ M2, Sub M2 M1 ∧ Q u M2, fun _ _ => False, fun _ _ => False⟩ (startU 4 us) M) : Cs T (k + 1) 35 us M Q := ⟨d35, rfl, hl, h⟩
theorem cs36 {k : Nat} {us : List U} {M : Hm} {Q : QU} (hl : us.length = 3) (h : wS (Cs T k) b36 ⟨fun _ M1 => ∃ M2, Sub M2 M1 ∧ Q .non M2, fun u M1 => ∃ M2, Sub M2 M1 ∧ Q u M2, fun _ _ => False, fun _ _ => False⟩ (startU 3 us) M) : Cs T (k + 1) 36 us M Q := ⟨d36, rfl, hl, h⟩
theorem cs37 {k : Nat} {us : List U} {M : Hm} {Q : QU} (hl : us.length = 5) (h : wS (Cs T k) b37 ⟨fun _ M1 => ∃ M2, Sub M2 M1 ∧ Q .non M2, fun u M1 => ∃ M2, Sub M2 M1 ∧ Q u M2, fun _ _ => False, fun _ _ => False⟩ (startU 8 us) M) : Cs T (k + 1) 37 us M Q := ⟨d37, rfl, hl, h⟩
theorem cs38 {k : Nat} {us : List U} {M : Hm} {Q : QU} (hl : us.length = 1) (h : wS (Cs T k) b38 ⟨fun _ M1 => ∃ M2, Sub M2 M1 ∧ Q .non M2, fun u M1 => ∃ M2, Sub M2 M1 ∧ Q u M2, fun _ _ => False, fun _ _ => False⟩ (startU 20 us) M) : Cs T (k + 1) 38 us M Q := ⟨d38, rfl, hl, h⟩
/-! ### the head -/
abbrev R : PySem.W.OpenRow := PySem.W.OpenLaw.row PySem.Challenge.rw_holdstill_k05_broken_and_stuck
abbrev hk : PySem.W.Hook := hookX 7 G sts
def ob (s : PySem.W.SharedT) : AlX := obsXG 7 G (HandSHeadRun.getT s)
theorem ob_eq (s : PySem.W.SharedT) : ob s = hk.obs s.abs := obsXG_eq (HandSHeadRun.getT_eq s)
def loose : List PySem.Str := (["HoldError", "NoRule", "rule_names", "body_of", "puts_before", "lay_of", "Making", "Frame", "step_frame", "run_goal", "begin", "run_goals", "make_partial", "make", "alone_partial", "alone", "_law_begin", "_law_draw", "_law_pick", "_law_rare", "_law_shuffled", "_law_world", "_law_lay", "_law_body_of", "_law_seen", "_law_broken", "_law_lay_down", "_law_make_goal", "_law_make", "_law_alone", "_law_chain", "_law_some", "_law_events"] : List String).map Str.ofString
theorem run (w : World) : HandSHeadRun.RunEq R (PySem.W.view R.prog [38]) hk ob 4000 loose w := by
  intro os
  kernel_rfl
end K05

set_option maxHeartbeats 400000
/-! traces, bodies; what their readers tell -/
namespace Pl
open PySem L2
/-- puts_before: trace, place, found, event -/
def B_puts_before : S := (.seq (.asg 2 (.dnew false)) (.seq (.for_ (.one 3) (.iSeq (.slice (.var 0) .nil (.var 1))) (.seq (.ifs (.cmp .eq (.ix (.var 3) (.int 0)) (.str "put")) (.seq (.setIx (.var 2) (.ix (.var 3) (.int 1)) (.ix (.var 3) (.int 2))) .skip) .skip) .skip)) (.seq (.ret (.var 2)) .skip)))
/-- lay_of: trace, found, file -/
def B_lay_of (puts_before : Nat) : S := (.seq (.asg 1 (.call puts_before (.cons (.var 0) (.cons (.blt .len (.cons (.var 0) .nil)) .nil)))) (.seq (.ret (.blt .tuple (.cons (.comp [("file", 2)] (.one 2) (.iKeys (.var 1)) .nil (.tup (.cons (.var 2) (.cons (.ix (.var 1) (.var 2)) .nil)))) .nil))) .skip))
/-- asks_of: trace, found, event -/
def B_asks_of : S := (.seq (.asg 1 (.dnew false)) (.seq (.for_ (.one 2) (.iSeq (.var 0)) (.seq (.ifs (.cmp .eq (.ix (.var 2) (.int 0)) (.str "ask")) (.seq (.setIx (.var 1) (.ix (.var 2) (.int 1)) (.bl true)) .skip) .skip) .skip)) (.seq (.ret (.blt .tuple (.cons (.blt .list (.cons (.var 1) .nil)) .nil))) .skip)))
/-- path_step: body, event -/
def B_path_step : S := (.seq (.ifs (.ors (.cons (.not (.isinst (.var 1) "tuple")) (.cons (.cmp .eq (.blt .len (.cons (.var 1) .nil)) (.int 0)) (.cons (.cmp .ne (.ix (.var 0) (.int 0)) (.ix (.var 1) (.int 0))) .nil)))) (.seq (.ret .non) .skip) .skip) (.seq (.ifs (.cmp .eq (.ix (.var 0) (.int 0)) (.str "see")) (.seq (.ifs (.ors (.cons (.cmp .ne (.blt .len (.cons (.var 1) .nil)) (.int 3)) (.cons (.cmp .ne (.ix (.var 1) (.int 1)) (.ix (.var 0) (.int 1))) (.cons (.not (.isinst (.ix (.var 1) (.int 2)) "int")) .nil)))) (.seq (.ret .non) .skip) .skip) (.seq (.ifs (.ors (.cons (.isinst (.ix (.var 1) (.int 2)) "bool") (.cons (.not (.chain .le .lt (.int 0) (.bin .add (.ix (.var 1) (.int 2)) (.int 1)) (.blt .len (.cons (.ix (.var 0) (.int 2)) .nil)))) .nil))) (.seq (.ret .non) .skip) .skip) (.seq (.ret (.ix (.ix (.var 0) (.int 2)) (.bin .add (.ix (.var 1) (.int 2)) (.int 1)))) .skip))) .skip) (.seq (.ifs (.cmp .eq (.ix (.var 0) (.int 0)) (.str "ask")) (.seq (.ret (.ite (.ands (.cons (.cmp .eq (.blt .len (.cons (.var 1) .nil)) (.int 2)) (.cons (.cmp .eq (.ix (.var 1) (.int 1)) (.ix (.var 0) (.int 1))) .nil))) (.ix (.var 0) (.int 2)) .non)) .skip) .skip) (.seq (.ifs (.cmp .eq (.ix (.var 0) (.int 0)) (.str "put")) (.seq (.ifs (.ors (.cons (.cmp .ne (.blt .len (.cons (.var 1) .nil)) (.int 3)) (.cons (.isinst (.ix (.var 1) (.int 2)) "bool") .nil))) (.seq (.ret .non) .skip) .skip) (.seq (.ret (.ite (.ands (.cons (.cmp .eq (.ix (.var 1) (.int 1)) (.ix (.var 0) (.int 1))) (.cons (.cmp .eq (.ix (.var 1) (.int 2)) (.ix (.var 0) (.int 2))) .nil))) (.ix (.var 0) (.int 3)) .non)) .skip)) .skip) (.seq (.ret .non) .skip)))))
/-- walks: body, trace, at, event -/
def B_walks (path_step : Nat) : S := (.seq (.ifs (.not (.isinst (.var 1) "tuple")) (.seq (.ret (.bl false)) .skip) .skip) (.seq (.asg 2 (.var 0)) (.seq (.for_ (.one 3) (.iSeq (.var 1)) (.seq (.asg 2 (.call path_step (.cons (.var 2) (.cons (.var 3) .nil)))) (.seq (.ifs (.isN (.var 2)) (.seq (.ret (.bl false)) .skip) .skip) .skip))) (.seq (.ret (.cmp .eq (.ix (.var 2) (.int 0)) (.str "done"))) .skip))))
/-- _law_lay: trace, files, last, event, file -/
def B_law_lay : S := (.seq (.asg 1 (.lst .nil)) (.seq (.asg 2 (.dnew false)) (.seq (.for_ (.one 3) (.iSeq (.var 0)) (.seq (.ifs (.cmp .eq (.ix (.var 3) (.int 0)) (.str "put")) (.seq (.ifs (.cmp .notin (.ix (.var 3) (.int 1)) (.var 1)) (.seq (.expr (.mth .append (.var 1) (.cons (.ix (.var 3) (.int 1)) .nil))) .skip) .skip) (.seq (.setIx (.var 2) (.ix (.var 3) (.int 1)) (.ix (.var 3) (.int 2))) .skip)) .skip) .skip)) (.seq (.ret (.blt .tuple (.cons (.comp [("file", 4)] (.one 4) (.iSeq (.var 1)) .nil (.tup (.cons (.var 4) (.cons (.ix (.var 2) (.var 4)) .nil)))) .nil))) .skip))))
/-- _law_asks: trace, found, event -/
def B_law_asks : S := (.seq (.asg 1 (.lst .nil)) (.seq (.for_ (.one 2) (.iSeq (.var 0)) (.seq (.ifs (.ands (.cons (.cmp .eq (.ix (.var 2) (.int 0)) (.str "ask")) (.cons (.cmp .notin (.ix (.var 2) (.int 1)) (.var 1)) .nil))) (.seq (.expr (.mth .append (.var 1) (.cons (.ix (.var 2) (.int 1)) .nil))) .skip) .skip) .skip)) (.seq (.ret (.blt .tuple (.cons (.var 1) .nil))) .skip)))
/-- _law_walks: body, trace, at, event -/
def B_law_walks : S := (.seq (.asg 2 (.var 0)) (.seq (.for_ (.one 3) (.iSeq (.var 1)) (.seq (.ifs (.ors (.cons (.cmp .ne (.ix (.var 2) (.int 0)) (.ix (.var 3) (.int 0))) (.cons (.cmp .ne (.ix (.var 2) (.int 1)) (.ix (.var 3) (.int 1))) .nil))) (.seq (.ret (.bl false)) .skip) .skip) (.seq (.ifs (.cmp .eq (.ix (.var 2) (.int 0)) (.str "see")) (.seq (.asg 2 (.ix (.ix (.var 2) (.int 2)) (.bin .add (.ix (.var 3) (.int 2)) (.int 1)))) .skip) (.seq (.ifs (.cmp .eq (.ix (.var 2) (.int 0)) (.str "put")) (.seq (.ifs (.cmp .ne (.ix (.var 2) (.int 2)) (.ix (.var 3) (.int 2))) (.seq (.ret (.bl false)) .skip) .skip) (.seq (.asg 2 (.ix (.var 2) (.int 3))) .skip)) (.seq (.asg 2 (.ix (.var 2) (.int 2))) .skip)) .skip)) .skip))) (.seq (.ret (.cmp .eq (.ix (.var 2) (.int 0)) (.str "done"))) .skip)))
inductive Ev where | ask (r : Str) | put (f : Str) (c : Int) | see (f : Str) (c : Int)
def encE : Ev → U
  | .ask r => .tup [.str "ask", .str r]
  | .put f c => .tup [.str "put", .str f, .int c]
  | .see f c => .tup [.str "see", .str f, .int c]
def Ev.ok : Ev → Prop
  | .ask r => okS r = true
  | .put f _ => okS f = true
  | .see f _ => okS f = true
def putsM (es : List Ev) : List (U × U) := es.foldl (fun ks e => match e with | .put f c => dput ks (.str f) (.int c) | _ => ks) []
theorem putsM_snoc (es : List Ev) (e : Ev) : putsM (es ++ [e]) = match e with | .put f c => dput (putsM es) (.str f) (.int c) | _ => putsM es := by
  unfold putsM
  rw [List.foldl_append]
  rfl
theorem putsM_len (es : List Ev) : (putsM es).length ≤ es.length := by
  induction es using snocs with
  | h0 => exact Nat.le_refl _
  | h1 es e ih =>
    rw [putsM_snoc, List.length_append]
    cases e with
    | put f c => have := dput_len (putsM es) (.str f) (.int c); simp; omega
    | _ => simp; omega
theorem putsM_nodup (es : List Ev) : ((putsM es).map (·.1)).Nodup := by
  induction es using snocs with
  | h0 => exact List.nodup_nil
  | h1 es e ih =>
    rw [putsM_snoc]
    cases e with
    | put f c => exact dput_nodup ih
    | _ => exact ih
theorem putsM_mem {es : List Ev} {p : U × U} (h : p ∈ putsM es) : ∃ f c, Ev.put f c ∈ es ∧ p = (.str f, .int c) := by
  induction es using snocs with
  | h0 => cases h
  | h1 es e ih =>
    rw [putsM_snoc] at h
    cases e with
    | put f c =>
      rcases dput_mem h with h | h
      · obtain ⟨f, c, h1, h2⟩ := ih h
        exact ⟨f, c, List.mem_append_left _ h1, h2⟩
      · exact ⟨f, c, List.mem_append_right _ (List.mem_singleton.mpr rfl), h⟩
    | _ =>
      obtain ⟨f, c, h1, h2⟩ := ih h
      exact ⟨f, c, List.mem_append_left _ h1, h2⟩
theorem puts_ok {C : CE} {nx bk ct : SU → Hm → Prop} {rt : QU} {M : Hm} {es : List Ev} {n : Nat} (hl : es.length < LIM) (hq : ∀ p, M p = none → rt (.ref p) (um M p (.dct false false (putsM (es.take n))))) :
    wS C B_puts_before ⟨nx, rt, bk, ct⟩ (startU 4 [.tup (es.map encE), .int n]) M := by
  unfold B_puts_before
  (repeat decreasing_trivial_pre_omega)
  intro p hp
  (repeat decreasing_trivial_pre_omega)
  rw [cutU_take, ← List.map_take]
  refine forL_by (fun don rest σ M' => (∃ u, σ = [some (.tup (es.map encE)), some (.int n), some (.ref p), u]) ∧ M' = um M p (.dct false false (putsM don))) (es.take n) ⟨⟨_, rfl⟩, rfl⟩ ?_ ?_
  · intro don x rest σ M' k e ⟨⟨u, e1⟩, e2⟩ hk
    subst e1 e2
    have hlen : (putsM don).length < LIM := by
      have h1 := putsM_len don
      have h2 : don.length ≤ (es.take n).length := by rw [← e, List.length_append]; omega
      rw [List.length_take] at h2
      omega
    cases x <;> simp only [encE] <;> (repeat decreasing_trivial_pre_omega)
    · exact hk _ _ trivial ⟨⟨_, rfl⟩, by rw [putsM_snoc]⟩
    · refine st_dct um_same rfl hlen ?_
      (repeat decreasing_trivial_pre_omega)
      exact hk _ _ trivial ⟨⟨_, rfl⟩, by rw [putsM_snoc, um_um]⟩
    · exact hk _ _ trivial ⟨⟨_, rfl⟩, by rw [putsM_snoc]⟩
  · intro σ M' ⟨⟨u, e1⟩, e2⟩
    subst e1 e2
    (repeat decreasing_trivial_pre_omega)
    exact hq p hp
def PutsC (C : CE) (f : Nat) : Prop := ∀ (M : Hm) (es : List Ev) (n : Nat) (Q : QU), es.length < LIM → (∀ p, M p = none → Q (.ref p) (um M p (.dct false false (putsM (es.take n))))) → C f [.tup (es.map encE), .int n] M Q
def pairU (p : U × U) : U := .tup [p.1, p.2]
def layU (es : List Ev) : U := .tup ((putsM es).map pairU)
theorem lay_ok {C : CE} {f : Nat} (hp : PutsC C f) {nx bk ct : SU → Hm → Prop} {rt : QU} {M : Hm} {es : List Ev} (hl : es.length < LIM) (hq : ∀ M', Sub M M' → rt (layU es) M') :
    wS C (B_lay_of f) ⟨nx, rt, bk, ct⟩ (startU 3 [.tup (es.map encE)]) M := by
  unfold B_lay_of
  (repeat decreasing_trivial_pre_omega)
  rw [List.length_map]
  refine hp _ _ _ _ hl fun p hp => ?_
  rw [List.take_length]
  (repeat decreasing_trivial_pre_omega)
  refine w_keys rfl um_same ?_
  rw [um_um]
  have hlen := putsM_len es
  refine compL_by (enc := fun p : U × U => p.1) (fun don rest acc M' => M' = um M p (.dct true false (putsM es)) ∧ acc = don.map pairU) (putsM es) ⟨rfl, rfl⟩ ?_ ?_
  · intro don x rest acc M' k e ⟨e1, e2⟩ hk
    subst e1 e2
    have hx : x ∈ putsM es := by rw [← e]; simp
    obtain ⟨g, c, _, ex⟩ := putsM_mem hx
    have hf := dfind_mem (putsM_nodup es) hx
    subst ex
    (repeat decreasing_trivial_pre_omega)
    refine x_dct um_same rfl hf ?_
    (repeat decreasing_trivial_pre_omega)
    refine hk _ _ um_same (fun _ => ?_) ⟨rfl, by simp [pairU]⟩
    have : (putsM es).length = don.length + rest.length + 1 := by rw [← e]; simp; omega
    rw [List.length_map]
    omega
  · intro acc M' ⟨e1, e2⟩
    subst e1 e2
    refine ⟨um_same, fun q hq0 => ?_⟩
    (repeat decreasing_trivial_pre_omega)
    refine hq _ ?_
    rw [um_um] at hq0 ⊢
    exact sub_um (sub_um (Sub.refl _) hp) (um_none hq0)
end Pl

set_option maxHeartbeats 400000
/-! the same told by a law; bodies and walks -/
namespace Pl
open PySem L2
theorem law_lay_ok {C : CE} {nx bk ct : SU → Hm → Prop} {rt : QU} {M : Hm} {es : List Ev} {tr : U} (ht : tr = .tup (es.map encE) ∨ ∃ p, tr = .ref p ∧ M p = some (.lst (es.map encE))) (ho : ∀ e ∈ es, e.ok) (hl : es.length < LIM) (hq : ∀ M', Sub M M' → rt (layU es) M') :
    wS C B_law_lay ⟨nx, rt, bk, ct⟩ (startU 5 [tr]) M := by
  unfold B_law_lay
  (repeat decreasing_trivial_pre_omega)
  intro p hp
  (repeat decreasing_trivial_pre_omega)
  intro q hq0
  have hpq : p ≠ q := fun e => by subst e; rw [um_same] at hq0; cases hq0
  have hq1 := um_none hq0
  (repeat decreasing_trivial_pre_omega)
  have key : forL (fun u k σ M => tgW (.one 3) u σ fun σ2 => wS C (.seq (.ifs (.cmp .eq (.ix (.var 3) (.int 0)) (.str "put")) (.seq (.ifs (.cmp .notin (.ix (.var 3) (.int 1)) (.var 1)) (.seq (.expr (.mth .append (.var 1) (.cons (.ix (.var 3) (.int 1)) .nil))) .skip) .skip) (.seq (.setIx (.var 2) (.ix (.var 3) (.int 1)) (.ix (.var 3) (.int 2))) .skip)) .skip) .skip) ⟨k, rt, wS C (.seq (.ret (.blt .tuple (.cons (.comp [("file", 4)] (.one 4) (.iSeq (.var 1)) .nil (.tup (.cons (.var 4) (.cons (.ix (.var 2) (.var 4)) .nil)))) .nil))) .skip) ⟨nx, rt, bk, ct⟩, k⟩ σ2 M) (fun M' => (∃ r, tr = .ref r) → ∀ r, tr = .ref r → M' r = some (.lst (es.map encE))) (wS C (.seq (.ret (.blt .tuple (.cons (.comp [("file", 4)] (.one 4) (.iSeq (.var 1)) .nil (.tup (.cons (.var 4) (.cons (.ix (.var 2) (.var 4)) .nil)))) .nil))) .skip) ⟨nx, rt, bk, ct⟩) (es.map encE) [some tr, some (.ref p), some (.ref q), none, none] (um (um M p (.lst [])) q (.dct false false [])) := by
    refine forL_by (fun don rest σ M' => (∃ u, σ = [some tr, some (.ref p), some (.ref q), u, none]) ∧ M' = um (um M p (.lst ((putsM don).map (·.1)))) q (.dct false false (putsM don))) es ⟨⟨_, rfl⟩, rfl⟩ ?_ ?_
    · intro don x rest σ M' k e ⟨⟨u, e1⟩, e2⟩ hk
      subst e1 e2
      have hg : ∀ l ks, (∃ r, tr = .ref r) → ∀ r, tr = .ref r → um (um M p (.lst l)) q (.dct false false ks) r = some (.lst (es.map encE)) := fun l ks _ r er => by
        rcases ht with ht | ⟨r', e', hr⟩
        · rw [ht] at er; cases er
        · rw [e'] at er; cases er
          exact um_old (um_old hr hp) (by rw [um_ne hpq.symm]; exact hq1)
      have hlen : don.length + rest.length + 1 = es.length := by rw [← e]; simp; omega
      have hlen2 := putsM_len don
      have hl3 : (putsM don).length < LIM := by omega
      cases x with
      | ask r =>
        simp only [encE]
        (repeat decreasing_trivial_pre_omega)
        refine hk _ _ (hg _ _) ⟨⟨_, rfl⟩, by rw [putsM_snoc]⟩
      | see f c =>
        simp only [encE]
        (repeat decreasing_trivial_pre_omega)
        refine hk _ _ (hg _ _) ⟨⟨_, rfl⟩, by rw [putsM_snoc]⟩
      | put f c =>
        simp only [encE]
        (repeat decreasing_trivial_pre_omega)
        have hf : okS f = true := ho (.put f c) (by rw [← e]; simp)
        refine nin_lst (um_oth hpq um_same) hf (okL_of fun x hx => ?_) ?_
        · rw [List.mem_map] at hx
          obtain ⟨y, hy, rfl⟩ := hx
          obtain ⟨g, c', hm, rfl⟩ := putsM_mem hy
          exact ho (.put g c') (by rw [← e]; exact List.mem_append_left _ hm)
        have hkeys := dput_keys (putsM don) (.str f) (.int c)
        by_cases hm : (.str f : U) ∈ (putsM don).map (·.1)
        · rw [if_pos hm] at hkeys
          (repeat decreasing_trivial_pre_omega)
          refine st_dct (t := false) (x := .str f) um_same rfl hl3 ?_
          (repeat decreasing_trivial_pre_omega)
          refine hk _ _ ?_ ⟨⟨_, rfl⟩, ?_⟩
          · rw [um_um]; exact hg _ _
          · rw [putsM_snoc, um_um]
            show um (um M p _) q _ = um (um M p (.lst ((dput (putsM don) (.str f) (.int c)).map (·.1)))) q _
            rw [hkeys]
        · rw [if_neg hm] at hkeys
          (repeat decreasing_trivial_pre_omega)
          refine m_app (um_oth hpq um_same) (by rw [List.length_map]; exact hl3) ?_
          (repeat decreasing_trivial_pre_omega)
          refine st_dct (um_oth hpq.symm um_same) rfl hl3 ?_
          (repeat decreasing_trivial_pre_omega)
          have em : um (um (um (um M p (.lst ((putsM don).map (·.1)))) q (.dct false false (putsM don))) p (.lst ((putsM don).map (·.1) ++ [.str f]))) q (.dct false false (dput (putsM don) (.str f) (.int c))) = um (um M p (.lst ((putsM (don ++ [.put f c])).map (·.1)))) q (.dct false false (putsM (don ++ [.put f c]))) := by
            rw [putsM_snoc]
            show _ = um (um M p (.lst ((dput (putsM don) (.str f) (.int c)).map (·.1)))) q _
            rw [hkeys]
            rw [um_comm (a := q) (b := p) hpq.symm, um_um, um_um]
          refine hk _ _ ?_ ⟨⟨_, rfl⟩, em⟩
          rw [em]
          exact hg _ _
    · intro σ M' ⟨⟨u, e1⟩, e2⟩
      subst e1 e2
      have hlen := putsM_len es
      (repeat decreasing_trivial_pre_omega)
      refine compL_by (enc := fun p : U × U => p.1) (fun don rest acc M' => M' = um (um M p (.lst ((putsM es).map (·.1)))) q (.dct false false (putsM es)) ∧ acc = don.map pairU) (putsM es) ⟨rfl, rfl⟩ ?_ ?_
      · intro don x rest acc M' k e ⟨e1, e2⟩ hk
        subst e1 e2
        have hx : x ∈ putsM es := by rw [← e]; simp
        obtain ⟨g, c, _, ex⟩ := putsM_mem hx
        have hf := dfind_mem (putsM_nodup es) hx
        subst ex
        (repeat decreasing_trivial_pre_omega)
        refine x_dct um_same rfl hf ?_
        (repeat decreasing_trivial_pre_omega)
        refine hk _ _ (um_oth hpq um_same) (fun _ => ?_) ⟨rfl, by simp [pairU]⟩
        have : (putsM es).length = don.length + rest.length + 1 := by rw [← e]; simp; omega
        rw [List.length_map]
        omega
      · intro acc M' ⟨e1, e2⟩
        subst e1 e2
        intro r hr0
        (repeat decreasing_trivial_pre_omega)
        refine hq _ ?_
        refine sub_um (sub_um (sub_um (Sub.refl _) hp) hq1) (um_none (um_none hr0))
  rcases ht with rfl | ⟨r, rfl, hr⟩
  · (repeat decreasing_trivial_pre_omega)
    refine cast ?_ key
    congr 1
    funext M'
    exact propext ⟨fun h => trivial, fun _ ⟨r, e⟩ => by cases e⟩
  · refine s_lst (um_old (um_old hr hp) hq0) ?_
    refine cast ?_ key
    congr 1
    funext M'
    exact propext ⟨fun h => h ⟨_, rfl⟩ _ rfl, fun h _ r' e => by cases e; exact h⟩
end Pl

set_option maxHeartbeats 400000
/-! bodies and walks; asks -/
namespace Pl
open PySem L2
inductive Bd where | done | put (f : Str) (c : Int) (b : Bd) | ask (r : Str) (b : Bd) | see (f : Str) (bs : List Bd)
mutual
def encB : Bd → U
  | .done => .tup [.str "done"]
  | .put f c b => .tup [.str "put", .str f, .int c, encB b]
  | .ask r b => .tup [.str "ask", .str r, encB b]
  | .see f bs => .tup [.str "see", .str f, .tup (encBs bs)]
def encBs : List Bd → List U
  | [] => []
  | b :: bs => encB b :: encBs bs
end
theorem encBs_map : ∀ bs : List Bd, encBs bs = bs.map encB
  | [] => rfl
  | b :: bs => by rw [encBs, encBs_map bs]; rfl
inductive BW (n : Nat) : Bd → Prop where
  | done : BW n .done
  | put {f c b} : okS f = true → BW n b → BW n (.put f c b)
  | ask {r b} : okS r = true → BW n b → BW n (.ask r b)
  | see {f bs} : okS f = true → bs.length = n → (∀ b ∈ bs, BW n b) → BW n (.see f bs)
def stepB : Bd → Ev → Option Bd
  | .see f bs, .see g c => if g = f then (if 0 ≤ c + 1 ∧ c + 1 < bs.length then bs[(c + 1).toNat]? else none) else none
  | .ask r b, .ask s => if s = r then some b else none
  | .put f c b, .put g d => if g = f then (if d = c then some b else none) else none
  | _, _ => none
def optU : Option Bd → U
  | none => .non
  | some b => encB b
theorem atI_enc {bs : List Bd} {i : Int} {n : Nat} (h0 : 0 ≤ i) (h1 : i < bs.length) (hn : n = i.toNat) : ∃ b, bs[n]? = some b ∧ atI (encBs bs) i = some (encB b) ∧ b ∈ bs := by
  have hi : i.toNat < bs.length := by omega
  refine ⟨bs[i.toNat], by rw [hn]; exact List.getElem?_eq_getElem hi, ?_, List.getElem_mem hi⟩
  rw [encBs_map]
  unfold atI ixN
  rw [if_pos h0, if_pos (by rw [List.length_map]; exact h1)]
  show (bs.map encB)[i.toNat]? = _
  rw [List.getElem?_map, List.getElem?_eq_getElem hi]
  rfl
theorem encBs_length (bs : List Bd) : (encBs bs).length = bs.length := by rw [encBs_map, List.length_map]
theorem path_step_ok {C : CE} {nx bk ct : SU → Hm → Prop} {rt : QU} {M : Hm} {b : Bd} {e : Ev} (hq : rt (optU (stepB b e)) M) : wS C B_path_step ⟨nx, rt, bk, ct⟩ (startU 2 [encB b, encE e]) M := by
  unfold B_path_step
  cases b <;> cases e <;> simp only [encB, encE, stepB] at hq ⊢ <;> (repeat decreasing_trivial_pre_omega) <;> try exact hq
  · rename_i f c b g d
    refine i_ifd (fun h1 => ?_) (fun h1 => ?_)
    · rw [if_pos h1] at hq
      (repeat decreasing_trivial_pre_omega)
      refine i_ifd (fun h2 => ?_) (fun h2 => ?_)
      · rw [if_pos h2] at hq
        (repeat decreasing_trivial_pre_omega)
        exact hq
      · rw [if_neg h2] at hq
        (repeat decreasing_trivial_pre_omega)
        exact hq
    · rw [if_neg h1] at hq
      (repeat decreasing_trivial_pre_omega)
      exact hq
  · rename_i r b s
    refine i_ifd (fun h1 => ?_) (fun h1 => ?_)
    · rw [if_pos h1] at hq
      (repeat decreasing_trivial_pre_omega)
      exact hq
    · rw [if_neg h1] at hq
      (repeat decreasing_trivial_pre_omega)
      exact hq
  · rename_i f bs g c
    refine i_ifd (fun h1 => ?_) (fun h1 => ?_)
    · rw [if_pos h1] at hq
      (repeat decreasing_trivial_pre_omega)
      refine i_ifd (fun h2 => ?_) (fun h2 => ?_)
      · (repeat decreasing_trivial_pre_omega)
        rw [encBs_length]
        refine i_ifd (fun h3 => ?_) (fun h3 => ?_)
        · (repeat decreasing_trivial_pre_omega)
          rw [if_pos ⟨h2, h3⟩] at hq
          obtain ⟨b, hb, hx, _⟩ := atI_enc h2 h3 rfl
          rw [hb] at hq
          refine x_tup hx ?_
          exact hq
        · (repeat decreasing_trivial_pre_omega)
          rw [if_neg (fun z => h3 z.2)] at hq
          exact hq
      · (repeat decreasing_trivial_pre_omega)
        rw [if_neg (fun z => h2 z.1)] at hq
        exact hq
    · rw [if_neg h1] at hq
      (repeat decreasing_trivial_pre_omega)
      exact hq
def StepC (C : CE) (f : Nat) : Prop := ∀ (M : Hm) (b : Bd) (e : Ev) (Q : QU), Q (optU (stepB b e)) M → C f [encB b, encE e] M Q
def walkB (b : Bd) (es : List Ev) : Option Bd := es.foldl (fun o e => o.bind fun b => stepB b e) (some b)
theorem walkB_snoc (b : Bd) (es : List Ev) (e : Ev) : walkB b (es ++ [e]) = (walkB b es).bind fun b => stepB b e := by
  unfold walkB
  rw [List.foldl_append]
  rfl
theorem walkB_none {b : Bd} {es fs : List Ev} (h : walkB b es = none) : walkB b (es ++ fs) = none := by
  induction fs using snocs with
  | h0 => rw [List.append_nil]; exact h
  | h1 l x ih => rw [← List.append_assoc, walkB_snoc, ih]; rfl
def isDone : Option Bd → Bool
  | some .done => true
  | _ => false
def walksM (b : Bd) (es : List Ev) : Bool := isDone (walkB b es)
theorem walksM_cut {b : Bd} {don rest : List Ev} {x : Ev} (h : walkB b (don ++ [x]) = none) : walksM b (don ++ x :: rest) = false := by
  have e : don ++ x :: rest = (don ++ [x]) ++ rest := by simp
  unfold walksM
  rw [e, walkB_none h]
  rfl
theorem walks_ok {C : CE} {f : Nat} (hs : StepC C f) {nx bk ct : SU → Hm → Prop} {rt : QU} {M : Hm} {b : Bd} {es : List Ev} (hq : rt (.bl (walksM b es)) M) : wS C (B_walks f) ⟨nx, rt, bk, ct⟩ (startU 4 [encB b, .tup (es.map encE)]) M := by
  unfold B_walks
  (repeat decreasing_trivial_pre_omega)
  refine forL_by (fun don rest σ M' => (∃ u at_, walkB b don = some at_ ∧ σ = [some (encB b), some (.tup (es.map encE)), some (encB at_), u]) ∧ M' = M) es ⟨⟨_, b, rfl, rfl⟩, rfl⟩ ?_ ?_
  · intro don x rest σ M' k e ⟨⟨u, at_, ha, e1⟩, e2⟩ hk
    subst e1 e2
    (repeat decreasing_trivial_pre_omega)
    refine hs _ _ _ _ ?_
    (repeat decreasing_trivial_pre_omega)
    have hw := walkB_snoc b don x
    rw [ha] at hw
    cases hn : stepB at_ x with
    | none =>
      rw [show (some at_).bind (fun b => stepB b x) = stepB at_ x from rfl, hn] at hw
      have hf := walksM_cut (rest := rest) hw
      rw [e] at hf
      rw [hf] at hq
      (repeat decreasing_trivial_pre_omega)
      exact hq
    | some b' =>
      rw [show (some at_).bind (fun b => stepB b x) = stepB at_ x from rfl, hn] at hw
      have hne : optU (some b') ≠ .non := by cases b' <;> simp [optU, encB]
      (repeat decreasing_trivial_pre_omega)
      exact hk _ _ trivial ⟨⟨_, b', hw, rfl⟩, rfl⟩
  · intro σ M' ⟨⟨u, at_, ha, e1⟩, e2⟩
    subst e1 e2
    unfold walksM at hq
    rw [ha] at hq
    cases at_ <;> simp only [encB] <;> (repeat decreasing_trivial_pre_omega) <;> exact hq
theorem law_walks_ok {C : CE} {nx bk ct : SU → Hm → Prop} {rt : QU} {M : Hm} {b : Bd} {es : List Ev} {n : Nat} (hb : BW n b) (he : ∀ f c, Ev.see f c ∈ es → 0 ≤ c + 1 ∧ c + 1 < n) (hq : rt (.bl (walksM b es)) M) : wS C B_law_walks ⟨nx, rt, bk, ct⟩ (startU 4 [encB b, .tup (es.map encE)]) M := by
  unfold B_law_walks
  (repeat decreasing_trivial_pre_omega)
  refine forL_by (fun don rest σ M' => (∃ u at_, walkB b don = some at_ ∧ BW n at_ ∧ σ = [some (encB b), some (.tup (es.map encE)), some (encB at_), u]) ∧ M' = M) es ⟨⟨_, b, rfl, hb, rfl⟩, rfl⟩ ?_ ?_
  · intro don x rest σ M' k e ⟨⟨u, at_, ha, hw, e1⟩, e2⟩ hk
    subst e1 e2
    have hw2 := walkB_snoc b don x
    rw [ha, show (some at_).bind (fun b => stepB b x) = stepB at_ x from rfl] at hw2
    have bad : stepB at_ x = none → rt (.bl false) M' := fun h => by
      rw [h] at hw2
      have hf := walksM_cut (rest := rest) hw2
      rw [e] at hf
      rw [hf] at hq
      exact hq
    have hm : x ∈ es := by rw [← e]; simp
    cases hw <;> cases x <;> simp only [stepB] at hw2 <;> simp only [encB, encE] <;> (repeat decreasing_trivial_pre_omega) <;> try exact bad rfl
    · rename_i f c b hf hb g d
      refine i_ifd (fun h1 => ?_) (fun h1 => ?_)
      · (repeat decreasing_trivial_pre_omega)
        refine i_ifd (fun h2 => ?_) (fun h2 => ?_)
        · (repeat decreasing_trivial_pre_omega)
          refine hk _ _ trivial ⟨⟨_, b, ?_, hb, rfl⟩, rfl⟩
          rw [hw2, if_pos h1.symm, if_pos h2.symm]
        · (repeat decreasing_trivial_pre_omega)
          exact bad (by simp only [stepB]; rw [if_pos h1.symm, if_neg (fun z => h2 z.symm)])
      · (repeat decreasing_trivial_pre_omega)
        exact bad (if_neg fun z => h1 z.symm)
    · rename_i r b hr hb s
      refine i_ifd (fun h1 => ?_) (fun h1 => ?_)
      · (repeat decreasing_trivial_pre_omega)
        refine hk _ _ trivial ⟨⟨_, b, ?_, hb, rfl⟩, rfl⟩
        rw [hw2, if_pos h1.symm]
      · (repeat decreasing_trivial_pre_omega)
        exact bad (if_neg fun z => h1 z.symm)
    · rename_i f bs hf hl hbs g c
      refine i_ifd (fun h1 => ?_) (fun h1 => ?_)
      · (repeat decreasing_trivial_pre_omega)
        obtain ⟨h2, h3⟩ := he g c hm
        rw [← hl] at h3
        obtain ⟨b', hb', hx, hmem⟩ := atI_enc h2 h3 rfl
        refine x_tup hx ?_
        (repeat decreasing_trivial_pre_omega)
        refine hk _ _ trivial ⟨⟨_, b', ?_, hbs b' hmem, rfl⟩, rfl⟩
        rw [hw2, if_pos h1.symm, if_pos ⟨h2, h3⟩, hb']
      · (repeat decreasing_trivial_pre_omega)
        exact bad (if_neg fun z => h1 z.symm)
  · intro σ M' ⟨⟨u, at_, ha, _, e1⟩, e2⟩
    subst e1 e2
    unfold walksM at hq
    rw [ha] at hq
    cases at_ <;> simp only [encB] <;> (repeat decreasing_trivial_pre_omega) <;> exact hq
/-! asks -/
def asksM (es : List Ev) : List Str := es.foldl (fun l e => match e with | .ask r => if r ∈ l then l else l ++ [r] | _ => l) []
theorem asksM_snoc (es : List Ev) (e : Ev) : asksM (es ++ [e]) = match e with | .ask r => if r ∈ asksM es then asksM es else asksM es ++ [r] | _ => asksM es := by
  unfold asksM
  rw [List.foldl_append]
  rfl
theorem asksM_len (es : List Ev) : (asksM es).length ≤ es.length := by
  induction es using snocs with
  | h0 => exact Nat.le_refl _
  | h1 es e ih =>
    rw [asksM_snoc, List.length_append]
    cases e with
    | ask r =>
      simp only
      split
      · simp; omega
      · simp; omega
    | _ => simp; omega
theorem asksM_mem {es : List Ev} {r : Str} (h : r ∈ asksM es) : Ev.ask r ∈ es := by
  induction es using snocs with
  | h0 => cases h
  | h1 es e ih =>
    rw [asksM_snoc] at h
    cases e with
    | ask s =>
      simp only at h
      split at h
      · exact List.mem_append_left _ (ih h)
      · rcases List.mem_append.mp h with h | h
        · exact List.mem_append_left _ (ih h)
        · rw [List.mem_singleton] at h; subst h; exact List.mem_append_right _ (List.mem_singleton.mpr rfl)
    | _ => exact List.mem_append_left _ (ih h)
def asksU (es : List Ev) : U := .tup ((asksM es).map U.str)
def askD (es : List Ev) : List (U × U) := (asksM es).map fun r => (.str r, .bl true)
theorem askD_snoc (es : List Ev) (r : Str) : askD (es ++ [.ask r]) = dput (askD es) (.str r) (.bl true) := by
  unfold askD dput
  rw [asksM_snoc, dfind_isSome]
  have hm : ((.str r : U) ∈ ((asksM es).map fun r => ((.str r : U), (.bl true : U))).map (·.1)) ↔ r ∈ asksM es := by
    rw [List.map_map, List.mem_map]
    constructor
    · rintro ⟨s, hs, e⟩
      have e : U.str s = U.str r := e
      injection e with e
      rwa [← e]
    · intro h; exact ⟨r, h, rfl⟩
  by_cases h : r ∈ asksM es
  · rw [if_pos (decide_eq_true (hm.mpr h))]
    simp only [if_pos h]
    rw [List.map_map]
    refine List.map_congr_left fun s _ => ?_
    show _ = if U.str s = U.str r then (U.str s, U.bl true) else (U.str s, U.bl true)
    split <;> rfl
  · rw [if_neg (by simpa using fun z => h (hm.mp (by simpa using z)))]
    simp only [if_neg h]
    rw [List.map_append]
    rfl
theorem asks_ok {C : CE} {nx bk ct : SU → Hm → Prop} {rt : QU} {M : Hm} {es : List Ev} (hl : es.length < LIM) (hq : ∀ M', Sub M M' → rt (asksU es) M') : wS C B_asks_of ⟨nx, rt, bk, ct⟩ (startU 3 [.tup (es.map encE)]) M := by
  unfold B_asks_of
  (repeat decreasing_trivial_pre_omega)
  intro p hp
  (repeat decreasing_trivial_pre_omega)
  refine forL_by (fun don rest σ M' => (∃ u, σ = [some (.tup (es.map encE)), some (.ref p), u]) ∧ M' = um M p (.dct false false (askD don))) es ⟨⟨_, rfl⟩, rfl⟩ ?_ ?_
  · intro don x rest σ M' k e ⟨⟨u, e1⟩, e2⟩ hk
    subst e1 e2
    have hlen : (askD don).length < LIM := by
      have h1 := asksM_len don
      have h2 : don.length ≤ es.length := by rw [← e, List.length_append]; omega
      unfold askD
      rw [List.length_map]
      omega
    cases x with
    | ask r =>
      simp only [encE]
      (repeat decreasing_trivial_pre_omega)
      refine st_dct (t := false) (x := .str r) um_same rfl hlen ?_
      (repeat decreasing_trivial_pre_omega)
      exact hk _ _ trivial ⟨⟨_, rfl⟩, by rw [askD_snoc, um_um]⟩
    | _ =>
      simp only [encE]
      (repeat decreasing_trivial_pre_omega)
      exact hk _ _ trivial ⟨⟨_, rfl⟩, by unfold askD; rw [asksM_snoc]⟩
  · intro σ M' ⟨⟨u, e1⟩, e2⟩
    subst e1 e2
    (repeat decreasing_trivial_pre_omega)
    intro q hq0
    (repeat decreasing_trivial_pre_omega)
    have e : (askD es).map (·.1) = (asksM es).map U.str := by unfold askD; rw [List.map_map]; rfl
    rw [e] at *
    exact hq _ (sub_um (sub_um (Sub.refl _) hp) (um_none hq0))
theorem law_asks_ok {C : CE} {nx bk ct : SU → Hm → Prop} {rt : QU} {M : Hm} {es : List Ev} (ho : ∀ e ∈ es, e.ok) (hl : es.length < LIM) (hq : ∀ M', Sub M M' → rt (asksU es) M') : wS C B_law_asks ⟨nx, rt, bk, ct⟩ (startU 3 [.tup (es.map encE)]) M := by
  unfold B_law_asks
  (repeat decreasing_trivial_pre_omega)
  intro p hp
  (repeat decreasing_trivial_pre_omega)
  refine forL_by (fun don rest σ M' => (∃ u, σ = [some (.tup (es.map encE)), some (.ref p), u]) ∧ M' = um M p (.lst ((asksM don).map U.str))) es ⟨⟨_, rfl⟩, rfl⟩ ?_ ?_
  · intro don x rest σ M' k e ⟨⟨u, e1⟩, e2⟩ hk
    subst e1 e2
    have hlen : (asksM don).length < LIM := by
      have h1 := asksM_len don
      have h2 : don.length ≤ es.length := by rw [← e, List.length_append]; omega
      omega
    cases x with
    | ask r =>
      simp only [encE]
      (repeat decreasing_trivial_pre_omega)
      refine nin_lst um_same (ho (.ask r) (by rw [← e]; simp)) (okL_of fun x hx => ?_) ?_
      · rw [List.mem_map] at hx
        obtain ⟨s, hs, rfl⟩ := hx
        exact ho (.ask s) (by rw [← e]; exact List.mem_append_left _ (asksM_mem hs))
      have hm : ((.str r : U) ∈ (asksM don).map U.str) ↔ r ∈ asksM don := by
        rw [List.mem_map]
        constructor
        · rintro ⟨s, hs, e⟩
          injection e with e
          rwa [← e]
        · intro h; exact ⟨r, h, rfl⟩
      have hs := asksM_snoc don (.ask r)
      simp only at hs
      by_cases h : (.str r : U) ∈ (asksM don).map U.str
      · (repeat decreasing_trivial_pre_omega)
        refine hk _ _ trivial ⟨⟨_, rfl⟩, ?_⟩
        rw [hs, if_pos (hm.mp h)]
      · (repeat decreasing_trivial_pre_omega)
        refine m_app (us := (asksM don).map U.str) um_same (by rw [List.length_map]; exact hlen) ?_
        (repeat decreasing_trivial_pre_omega)
        refine hk _ _ trivial ⟨⟨_, rfl⟩, ?_⟩
        rw [hs, if_neg (fun z => h (hm.mpr z)), um_um]
        simp
    | _ =>
      simp only [encE]
      (repeat decreasing_trivial_pre_omega)
      exact hk _ _ trivial ⟨⟨_, rfl⟩, by rw [asksM_snoc]⟩
  · intro σ M' ⟨⟨u, e1⟩, e2⟩
    subst e1 e2
    (repeat decreasing_trivial_pre_omega)
    exact hq _ (sub_um (Sub.refl _) hp)
end Pl

set_option maxHeartbeats 400000
/-! bodies that are drawn -/
namespace Pl
open PySem L2
/-- _law_body: d, spec, asked, left, deep, k, file, content, at, pool, share, bodies -/
def B_law_body (law_body : Nat) (law_pick : Nat) (law_draw : Nat) : S := (.seq (.ifs (.ors (.cons (.cmp .lt (.var 3) (.int 2)) (.cons (.cmp .gt (.var 4) (.int 8)) .nil))) (.seq (.ret (.tup (.cons (.str "done") .nil))) .skip) .skip) (.seq (.asg 5 (.call law_draw (.cons (.var 0) (.cons (.int 9) .nil)))) (.seq (.ifs (.ands (.cons (.cmp .eq (.var 5) (.int 4)) (.cons (.cmp .gt (.var 4) (.int 0)) .nil))) (.seq (.ret (.tup (.cons (.str "done") .nil))) .skip) .skip) (.seq (.ifs (.ands (.cons (.cmp .lt (.var 5) (.int 3)) (.cons (.ix (.var 1) (.int 2)) .nil))) (.seq (.asg 6 (.call law_pick (.cons (.var 0) (.cons (.ix (.var 1) (.int 2)) .nil)))) (.seq (.asg 7 (.call law_draw (.cons (.var 0) (.cons (.ix (.var 1) (.int 0)) .nil)))) (.seq (.ret (.tup (.cons (.str "put") (.cons (.var 6) (.cons (.var 7) (.cons (.call law_body (.cons (.var 0) (.cons (.var 1) (.cons (.var 2) (.cons (.bin .sub (.var 3) (.int 1)) (.cons (.bin .add (.var 4) (.int 1)) .nil)))))) .nil)))))) .skip))) .skip) (.seq (.ifs (.ands (.cons (.cmp .lt (.var 5) (.int 6)) (.cons (.ix (.var 1) (.int 4)) .nil))) (.seq (.asg 8 (.call law_draw (.cons (.var 0) (.cons (.blt .len (.cons (.ix (.var 1) (.int 4)) .nil)) .nil)))) (.seq (.ret (.tup (.cons (.str "ask") (.cons (.ix (.ix (.var 1) (.int 4)) (.var 8)) (.cons (.call law_body (.cons (.var 0) (.cons (.var 1) (.cons (.bin .add (.var 2) (.lst (.cons (.var 8) .nil))) (.cons (.bin .sub (.var 3) (.int 1)) (.cons (.bin .add (.var 4) (.int 1)) .nil)))))) .nil))))) .skip)) .skip) (.seq (.asg 9 (.bin .add (.blt .list (.cons (.ix (.var 1) (.int 1)) .nil)) (.blt .list (.cons (.ix (.var 1) (.int 5)) .nil)))) (.seq (.for_ (.one 8) (.iSeq (.var 2)) (.seq (.expr (.mth .extend (.var 9) (.cons (.ix (.ix (.var 1) (.int 3)) (.var 8)) .nil))) .skip)) (.seq (.ifs (.not (.var 9)) (.seq (.ret (.tup (.cons (.str "done") .nil))) .skip) .skip) (.seq (.asg 6 (.call law_pick (.cons (.var 0) (.cons (.var 9) .nil)))) (.seq (.asg 10 (.bin .add (.bin .fdiv (.bin .sub (.var 3) (.int 1)) (.bin .add (.ix (.var 1) (.int 0)) (.int 1))) (.int 1))) (.seq (.asg 11 (.lst .nil)) (.seq (.for_ (.one 7) (.iRange (.bin .add (.ix (.var 1) (.int 0)) (.int 1))) (.seq (.expr (.mth .append (.var 11) (.cons (.call law_body (.cons (.var 0) (.cons (.var 1) (.cons (.var 2) (.cons (.var 10) (.cons (.bin .add (.var 4) (.int 1)) .nil)))))) .nil))) .skip)) (.seq (.ret (.tup (.cons (.str "see") (.cons (.var 6) (.cons (.blt .tuple (.cons (.var 11) .nil)) .nil))))) .skip)))))))))))))
/-- a body with as many branches as n, its puts, asks and sees as told, no path longer than the number -/
inductive BP (n : Nat) (pp : Str → Int → Prop) (pa ps : Str → Prop) : Nat → Bd → Prop where
  | done {k} : BP n pp pa ps k .done
  | put {k f c b} : pp f c → BP n pp pa ps k b → BP n pp pa ps (k + 1) (.put f c b)
  | ask {k r b} : pa r → BP n pp pa ps k b → BP n pp pa ps (k + 1) (.ask r b)
  | see {k f bs} : ps f → bs.length = n → (∀ b ∈ bs, BP n pp pa ps k b) → BP n pp pa ps (k + 1) (.see f bs)
def StrsAt (M : Hm) (p : Addr × Addr) (r : Addr) (P : Str → Prop) (l : List Str) : Prop := r ≠ p.1 ∧ l.length ≤ 100 ∧ (∀ x ∈ l, P x) ∧ M r = some (.lst (l.map U.str))
theorem StrsAt.fr {M M' : Hm} {p : Addr × Addr} {r : Addr} {P : Str → Prop} {l : List Str} (h : StrsAt M p r P l) (f : Fr p M M') : StrsAt M' p r P l := ⟨h.1, h.2.1, h.2.2.1, f.at_ h.1 h.2.2.2⟩
theorem f_listHd {M : Hm} {Q : QU} {u : U} {l : List U} (h : u = .tup l ∨ u = .dtp l) (q : ∀ a, M a = none → Q (.ref a) (um M a (.lst l))) : bltW .list [u] M Q := by
  rcases h with rfl | rfl <;> exact q
/-- what a body is drawn from -/
def SpecAt (M : Hm) (p : Addr × Addr) (s : Addr) (n : Nat) (pp pa ps : Str → Prop) : Prop := ∃ (X F A Y : List Str) (f g a y : Addr) (G : List Addr) (h0 : U),
  s ≠ p.1 ∧ M s = some (.lst [.int n, h0, .ref f, .ref g, .ref a, .ref y]) ∧ (X.length ≤ 100 ∧ (h0 = .tup (X.map U.str) ∨ h0 = .dtp (X.map U.str))) ∧ (∀ x ∈ X, ps x) ∧ StrsAt M p f pp F ∧ StrsAt M p a pa A ∧ StrsAt M p y ps Y ∧
  g ≠ p.1 ∧ M g = some (.lst (G.map U.ref)) ∧ A.length ≤ G.length ∧ ∀ r ∈ G, ∃ l, StrsAt M p r ps l
theorem SpecAt.fr {M M' : Hm} {p : Addr × Addr} {s : Addr} {n : Nat} {pp pa ps : Str → Prop} (h : SpecAt M p s n pp pa ps) (fr : Fr p M M') : SpecAt M' p s n pp pa ps := by
  obtain ⟨X, F, A, Y, f, g, a, y, G, h0, h1, h2, h3, h4, h5, h6, h7, h8, h9, h10, h11⟩ := h
  exact ⟨X, F, A, Y, f, g, a, y, G, h0, h1, fr.at_ h1 h2, h3, h4, h5.fr fr, h6.fr fr, h7.fr fr, h8, fr.at_ h8 h9, h10, fun r hr => let ⟨l, hl⟩ := h11 r hr; ⟨l, hl.fr fr⟩⟩
/-- which places are asked for so far -/
def AskedAt (M : Hm) (p : Addr × Addr) (s q : Addr) (deep : Int) : Prop := ∃ (ats : List Nat) (v0 v1 v2 v4 v5 : U) (g : Addr) (G : List Addr), q ≠ p.1 ∧ M q = some (.lst (ats.map fun i => U.int (i : Nat))) ∧ ats.length ≤ deep ∧ M s = some (.lst [v0, v1, v2, .ref g, v4, v5]) ∧ M g = some (.lst (G.map U.ref)) ∧ s ≠ p.1 ∧ g ≠ p.1 ∧ ∀ i ∈ ats, i < G.length
theorem AskedAt.fr {M M' : Hm} {p : Addr × Addr} {s q : Addr} {deep : Int} (h : AskedAt M p s q deep) (fr : Fr p M M') : AskedAt M' p s q deep := by
  obtain ⟨ats, v0, v1, v2, v4, v5, g, G, h1, h2, h3, h4, h5, h6, h7, h8⟩ := h
  exact ⟨ats, v0, v1, v2, v4, v5, g, G, h1, fr.at_ h1 h2, h3, fr.at_ h6 h4, fr.at_ h7 h5, h6, h7, h8⟩
theorem AskedAt.up {M : Hm} {p : Addr × Addr} {s q : Addr} {deep : Int} (h : AskedAt M p s q deep) : AskedAt M p s q (deep + 1) := by
  obtain ⟨ats, v0, v1, v2, v4, v5, g, G, h1, h2, h3, h4, h5, h6, h7, h8⟩ := h
  exact ⟨ats, v0, v1, v2, v4, v5, g, G, h1, h2, by omega, h4, h5, h6, h7, h8⟩
def BodyC (C : CE) (f : Nat) (deep : Int) : Prop := ∀ (M : Hm) (p : Addr × Addr) (s q : Addr) (n : Nat) (pp pa ps : Str → Prop) (left : Int) (j : Nat) (Q : QU), deep + j = 9 → 0 < n → n < 100 → Dr M p → SpecAt M p s n pp pa ps → AskedAt M p s q deep →
  (∀ b M', BP (n + 1) (fun f c => pp f ∧ 0 ≤ c ∧ c < n) pa ps j b → Dr M' p → Fr p M M' → Q (encB b) M') → C f [.ref p.1, .ref s, .ref q, .int left, .int deep] M Q
theorem body_ok {C : CE} {fb fp fd : Nat} {deep : Int} (hd : DrawC C fd) (hp : PickC C fp) (hdeep : 0 ≤ deep) (hb : deep ≤ 8 → BodyC C fb (deep + 1)) {nx bk ct : SU → Hm → Prop} {rt : QU} {M : Hm} {p : Addr × Addr} {s q : Addr} {n : Nat} {pp pa ps : Str → Prop} {left : Int} {j : Nat} (hj : deep + j = 9) (hn0 : 0 < n) (hn : n < 100) (d : Dr M p) (hs : SpecAt M p s n pp pa ps) (ha : AskedAt M p s q deep)
    (hq : ∀ b M', BP (n + 1) (fun f c => pp f ∧ 0 ≤ c ∧ c < n) pa ps j b → Dr M' p → Fr p M M' → rt (encB b) M') :
    wS C (B_law_body fb fp fd) ⟨nx, rt, bk, ct⟩ (startU 12 [.ref p.1, .ref s, .ref q, .int left, .int deep]) M := by
  have donE : ∀ M', Dr M' p → Fr p M M' → rt (.tup [.str "done"]) M' := fun M' d' fr => hq .done M' .done d' fr
  unfold B_law_body
  (repeat decreasing_trivial_pre_omega)
  refine i_ifd (fun h1 => ?_) (fun h1 => ?_)
  · (repeat decreasing_trivial_pre_omega)
    exact donE M d (Fr.refl _ _)
  (repeat decreasing_trivial_pre_omega)
  refine i_ifd (fun h2 => ?_) (fun h2 => ?_)
  · (repeat decreasing_trivial_pre_omega)
    exact donE M d (Fr.refl _ _)
  have hb := hb (by omega)
  obtain ⟨j, rfl⟩ : ∃ i, j = i + 1 := ⟨j - 1, by omega⟩
  (repeat decreasing_trivial_pre_omega)
  refine hd.lt M p 9 _ d (by decide) (by decide) fun r M1 hr d1 fr1 => ?_
  have hs1 := hs.fr fr1
  have ha1 := ha.fr fr1
  obtain ⟨X, F, A, Y, f, g, a, y, G, h0, s1, s2, ⟨s3, sh⟩, s4, s5, s6, s7, s8, s9, s10, s11⟩ := hs1
  obtain ⟨f1, f2, f3, f4⟩ := s5
  (repeat decreasing_trivial_pre_omega)
  apply rest_of
  · intro rest
    by_cases h3 : ((r : Nat) : Int) = 4
    · (repeat decreasing_trivial_pre_omega)
      by_cases h4 : 0 < deep
      · (repeat decreasing_trivial_pre_omega)
        exact donE M1 d1 fr1
      · (repeat decreasing_trivial_pre_omega)
        exact rest.out
    · (repeat decreasing_trivial_pre_omega)
      exact rest.out
  (repeat decreasing_trivial_pre_omega)
  apply rest_of
  · intro rest
    by_cases h3 : ((r : Nat) : Int) < 3
    · (repeat decreasing_trivial_pre_omega)
      by_cases h4 : F.map U.str = []
      · (repeat decreasing_trivial_pre_omega)
        exact rest.out
      · (repeat decreasing_trivial_pre_omega)
        refine hp _ _ _ (F.map U.str) _ d1 (.inr ⟨f, rfl, f1, f4⟩) h4 (by rw [List.length_map]; omega) fun x M2 hx d2 fr2 => ?_
        rw [List.mem_map] at hx
        obtain ⟨fl, hfl, rfl⟩ := hx
        have s2' := fr2.at_ s1 s2
        (repeat decreasing_trivial_pre_omega)
        refine hd.lt _ _ n _ d2 hn0 (by omega) fun c M3 hc d3 fr3 => ?_
        (repeat decreasing_trivial_pre_omega)
        refine hb _ _ _ _ n pp pa ps _ j _ (by omega) hn0 hn d3 (((hs.fr fr1).fr fr2).fr fr3) ?_ fun b M4 hb4 d4 fr4 => ?_
        · exact (((ha.fr fr1).fr fr2).fr fr3).up
        (repeat decreasing_trivial_pre_omega)
        have := hq (.put fl c b) M4 (.put ⟨f3 _ hfl, by omega, by omega⟩ hb4) d4 (((fr1.trans fr2).trans fr3).trans fr4)
        simpa only [encB] using this
    · (repeat decreasing_trivial_pre_omega)
      exact rest.out
  (repeat decreasing_trivial_pre_omega)
  obtain ⟨ats, v0, v1, v2, v4, v5, g', G', a1, a2, a3, a4, a5, a6, a7, a8⟩ := ha1
  have eg := s2.symm.trans a4
  simp only [Option.some.injEq, MO.lst.injEq, List.cons.injEq, U.ref.injEq] at eg
  simp only [and_true] at eg
  obtain ⟨rfl, rfl, rfl, rfl, rfl, rfl⟩ := eg
  have eG := s9.symm.trans a5
  simp only [Option.some.injEq, MO.lst.injEq] at eG
  obtain ⟨y1, y2, y3, y4⟩ := s7
  apply rest_of
  · intro rest
    by_cases h3 : ((r : Nat) : Int) < 6
    · (repeat decreasing_trivial_pre_omega)
      obtain ⟨b1, b2, b3, b4⟩ := s6
      by_cases h4 : A.map U.str = []
      · (repeat decreasing_trivial_pre_omega)
        exact rest.out
      · (repeat decreasing_trivial_pre_omega)
        rw [List.length_map]
        have hA : 0 < A.length := List.length_pos_iff.mpr fun z => h4 (by rw [z]; rfl)
        refine hd.lt _ _ _ _ d1 hA (by omega) fun i M2 hi d2 fr2 => ?_
        have s2' := fr2.at_ s1 s2
        have b4' := fr2.at_ b1 b4
        have a2' := fr2.at_ a1 a2
        (repeat decreasing_trivial_pre_omega)
        refine x_lst b4' (atI_nat (by rw [List.length_map]; exact hi)) ?_
        (repeat decreasing_trivial_pre_omega)
        intro q1 hq1
        refine o_addL (um_old a2' hq1) um_same (by simp [LIM]; omega) ?_
        intro q2 hq2
        (repeat decreasing_trivial_pre_omega)
        have sb : Sub M2 (um (um M2 q1 (.lst [.int (i : Nat)])) q2 (.lst ((ats.map fun i => U.int (i : Nat)) ++ [.int (i : Nat)]))) := sub_um (sub_um (Sub.refl _) hq1) (um_none hq2)
        have fr3 : Fr p M1 _ := fr2.trans (sb.fr (p := p))
        have nq2 : q2 ≠ p.1 := d2.ne (um_none hq2)
        refine hb _ _ _ _ n pp pa ps _ j _ (by omega) hn0 hn (d2.sub sb) ((hs.fr fr1).fr fr3) ⟨ats ++ [i], .int n, h0, .ref f, .ref a, .ref y, g, G, nq2, ?_, ?_, ?_, ?_, a6, a7, ?_⟩ fun b M4 hb4 d4 fr4 => ?_
        · rw [um_same, List.map_append]; rfl
        · simp; omega
        · exact sb _ _ s2'
        · exact sb _ _ (fr2.at_ a7 s9)
        · intro j hj
          rcases List.mem_append.mp hj with hj | hj
          · have := a8 j hj
            have e2 : G'.length = G.length := by have := congrArg List.length eG; simpa using this.symm
            omega
          · rw [List.mem_singleton] at hj
            omega
        (repeat decreasing_trivial_pre_omega)
        rw [List.getElem_map]
        have := hq (.ask A[i] b) M4 (.ask (b3 _ (List.getElem_mem hi)) hb4) d4 ((fr1.trans fr3).trans fr4)
        simpa only [encB] using this
    · (repeat decreasing_trivial_pre_omega)
      exact rest.out
  (repeat decreasing_trivial_pre_omega)
  refine f_listHd sh ?_
  intro x1 hx1
  (repeat decreasing_trivial_pre_omega)
  intro x2 hx2
  refine o_addL (um_old um_same hx2) um_same (by simp [LIM]; omega) ?_
  intro x3 hx3
  (repeat decreasing_trivial_pre_omega)
  have c1 := um_none hx2
  have c2 := um_none hx3
  have dB : Dr (um (um M1 x1 (.lst (X.map U.str))) x2 (.lst (Y.map U.str))) p := (d1.upd hx1).upd hx2
  have nx3 : x3 ≠ p.1 := dB.ne hx3
  have nx3' : x3 ≠ p.2 := dB.ne2 hx3
  have frB : Fr p M1 (um (um M1 x1 (.lst (X.map U.str))) x2 (.lst (Y.map U.str))) := (sub_um (sub_um (Sub.refl _) hx1) c1).fr
  generalize um (um M1 x1 (.lst (X.map U.str))) x2 (.lst (Y.map U.str)) = MB at hx3 c2 dB frB ⊢
  have G9 := frB.at_ s8 s9
  have S2 := frB.at_ s1 s2
  have A2 := frB.at_ a1 a2
  have elen : G'.length = G.length := by have := congrArg List.length eG; simpa using this.symm
  refine forL_by (enc := fun i : Nat => U.int (i : Nat)) (fun don rest σ M' => ∃ u8 pool, σ = [some (.ref p.1), some (.ref s), some (.ref q), some (.int left), some (.int deep), some (.int r), none, none, u8, some (.ref x3), none, none] ∧ M' = um MB x3 (.lst (pool.map U.str)) ∧ pool.length ≤ 200 + 100 * don.length ∧ ∀ x ∈ pool, ps x) ats ⟨_, X ++ Y, rfl, by rw [List.map_append], by simp; omega, fun x hx => by
    rcases List.mem_append.mp hx with hx | hx
    · exact s4 x hx
    · exact y3 x hx⟩ ?_ ?_
  · intro don i rest σ M' k e ⟨u8, pool, e1, e2, e3, e4⟩ hk
    subst e1 e2
    have hi : i < G.length := by have := a8 i (by rw [← e]; simp); omega
    obtain ⟨l, l1, l2, l3, l4⟩ := s11 G[i] (List.getElem_mem hi)
    have L4 := frB.at_ l1 l4
    (repeat decreasing_trivial_pre_omega)
    refine x_lst (um_old G9 hx3) (atI_nat (by rw [List.length_map]; exact hi)) ?_
    rw [List.getElem_map]
    (repeat decreasing_trivial_pre_omega)
    have hdl : don.length ≤ 9 := by
      have : don.length + rest.length + 1 = ats.length := by rw [← e]; simp; omega
      omega
    refine m_ext um_same (um_old L4 hx3) (by simp [LIM]; omega) ?_
    rw [um_um]
    (repeat decreasing_trivial_pre_omega)
    refine hk _ _ (um_old A2 hx3) ⟨_, pool ++ l, rfl, by rw [List.map_append], by simp; omega, fun x hx => ?_⟩
    rcases List.mem_append.mp hx with hx | hx
    · exact e4 x hx
    · exact l3 x hx
  intro σ M' ⟨u8, pool, e1, e2, e3', e4'⟩
  subst e1 e2
  (repeat decreasing_trivial_pre_omega)
  have dP : Dr (um MB x3 (.lst (pool.map U.str))) p := dB.upd2 nx3 nx3'
  have frP : Fr p M (um MB x3 (.lst (pool.map U.str))) := (fr1.trans frB).upd (fr1.non nx3 (frB.non nx3 hx3))
  have frP1 : Fr p M1 (um MB x3 (.lst (pool.map U.str))) := frB.upd (frB.non nx3 hx3)
  by_cases h5 : pool.map U.str = []
  · (repeat decreasing_trivial_pre_omega)
    exact donE _ dP frP
  (repeat decreasing_trivial_pre_omega)
  refine hp _ _ _ (pool.map U.str) _ dP (.inr ⟨x3, rfl, nx3, um_same⟩) h5 (by rw [List.length_map]; omega) fun x M2 hx d2 fr2 => ?_
  rw [List.mem_map] at hx
  obtain ⟨fl, hfl, rfl⟩ := hx
  have S2' := (frP1.trans fr2).at_ s1 s2
  have FR := frP.trans fr2
  (repeat decreasing_trivial_pre_omega)
  intro b0 hb0
  have nb := d2.ne hb0
  have nb' := d2.ne2 hb0
  have hMb : M b0 = none := FR.non nb hb0
  (repeat decreasing_trivial_pre_omega)
  refine ⟨by simp [LIM]; omega, by simp [LIM]; omega, ?_⟩
  rw [show ((n : Int) + 1) = ((n + 1 : Nat) : Int) by omega, rngU_nat]
  refine forL_by (enc := fun i : Nat => U.int (i : Nat)) (fun don rest σ M' => ∃ u7 bs, σ = [some (.ref p.1), some (.ref s), some (.ref q), some (.int left), some (.int deep), some (.int r), some (.str fl), u7, u8, some (.ref x3), some (.int ((left - 1) / ((n : Int) + 1) + 1)), some (.ref b0)] ∧ bs.length = don.length ∧ (∀ b ∈ bs, BP (n + 1) (fun f c => pp f ∧ 0 ≤ c ∧ c < n) pa ps j b) ∧ Dr M' p ∧ Fr p M M' ∧ M' b0 = some (.lst (bs.map encB))) (List.range (n + 1)) ⟨_, [], rfl, rfl, (by intro b hb; cases hb), d2.upd2 nb nb', FR.upd hMb, um_same⟩ ?_ ?_
  · intro don i rest σ M' k e ⟨u7, bs, e1, e2, e3, e4, e5, e6⟩ hk
    subst e1
    (repeat decreasing_trivial_pre_omega)
    refine hb _ _ _ _ n pp pa ps _ j _ (by omega) hn0 hn e4 (hs.fr e5) (ha.fr e5).up fun b M4 hb4 d4 fr4 => ?_
    have e6' := fr4.at_ nb e6
    have hlen : don.length < 101 := by
      have : don.length + rest.length + 1 = n + 1 := by rw [← List.length_range (n := n + 1), ← e]; simp; omega
      omega
    (repeat decreasing_trivial_pre_omega)
    refine m_app e6' (by simp [LIM]; omega) ?_
    (repeat decreasing_trivial_pre_omega)
    refine hk _ _ trivial ⟨_, bs ++ [b], rfl, by simp; omega, fun c hc => ?_, d4.upd2 nb nb', (e5.trans fr4).upd hMb, by rw [um_same, List.map_append]; rfl⟩
    rcases List.mem_append.mp hc with hc | hc
    · exact e3 c hc
    · rw [List.mem_singleton] at hc; subst hc; exact hb4
  intro σ M' ⟨u7, bs, e1, e2, e3, e4, e5, e6⟩
  subst e1
  (repeat decreasing_trivial_pre_omega)
  have := hq (.see fl bs) M' (.see (e4' _ hfl) (by rw [e2, List.length_range]) e3) e4 e5
  simp only [encB, encBs_map] at this
  exact this
end Pl

set_option maxHeartbeats 400000
/-! walks that are drawn -/
namespace Pl
open PySem L2
/-- _law_event: d, kinds, way -/
def B_law_event (law_draw : Nat) (law_pick : Nat) : S := (.seq (.asg 2 (.call law_draw (.cons (.var 0) (.cons (.int 3) .nil)))) (.seq (.ifs (.cmp .eq (.var 2) (.int 0)) (.seq (.ret (.tup (.cons (.str "ask") (.cons (.call law_pick (.cons (.var 0) (.cons (.lst (.cons (.str "r") (.cons (.str "q") (.cons (.str "p") .nil)))) .nil))) .nil)))) .skip) .skip) (.seq (.ifs (.cmp .eq (.var 2) (.int 1)) (.seq (.ret (.tup (.cons (.str "put") (.cons (.call law_pick (.cons (.var 0) (.cons (.lst (.cons (.str "x") (.cons (.str "y") (.cons (.str "z") (.cons (.str "r") .nil))))) .nil))) (.cons (.call law_draw (.cons (.var 0) (.cons (.var 1) .nil))) .nil))))) .skip) .skip) (.seq (.ret (.tup (.cons (.str "see") (.cons (.call law_pick (.cons (.var 0) (.cons (.lst (.cons (.str "x") (.cons (.str "y") (.cons (.str "a") (.cons (.str "r") .nil))))) .nil))) (.cons (.bin .sub (.call law_draw (.cons (.var 0) (.cons (.bin .add (.var 1) (.int 1)) .nil))) (.int 1)) .nil))))) .skip))))
/-- _law_walk: d, kinds, body, found, at, turn, content -/
def B_law_walk (law_draw : Nat) : S := (.seq (.asg 3 (.lst .nil)) (.seq (.asg 4 (.var 2)) (.seq (.for_ (.one 5) (.iRange (.int 20)) (.seq (.ifs (.cmp .eq (.ix (.var 4) (.int 0)) (.str "done")) (.seq .brk .skip) .skip) (.seq (.ifs (.cmp .eq (.ix (.var 4) (.int 0)) (.str "see")) (.seq (.asg 6 (.bin .sub (.call law_draw (.cons (.var 0) (.cons (.bin .add (.var 1) (.int 1)) .nil))) (.int 1))) (.seq (.expr (.mth .append (.var 3) (.cons (.tup (.cons (.str "see") (.cons (.ix (.var 4) (.int 1)) (.cons (.var 6) .nil)))) .nil))) (.seq (.asg 4 (.ix (.ix (.var 4) (.int 2)) (.bin .add (.var 6) (.int 1)))) .skip))) (.seq (.ifs (.cmp .eq (.ix (.var 4) (.int 0)) (.str "ask")) (.seq (.expr (.mth .append (.var 3) (.cons (.tup (.cons (.str "ask") (.cons (.ix (.var 4) (.int 1)) .nil))) .nil))) (.seq (.asg 4 (.ix (.var 4) (.int 2))) .skip)) (.seq (.expr (.mth .append (.var 3) (.cons (.tup (.cons (.str "put") (.cons (.ix (.var 4) (.int 1)) (.cons (.ix (.var 4) (.int 2)) .nil)))) .nil))) (.seq (.asg 4 (.ix (.var 4) (.int 3))) .skip))) .skip)) .skip))) (.seq (.ret (.var 3)) .skip))))
/-- _law_spoil: d, kinds, walk, row, at, way -/
def B_law_spoil (law_event : Nat) (law_draw : Nat) : S := (.seq (.asg 3 (.blt .list (.cons (.var 2) .nil))) (.seq (.asg 4 (.call law_draw (.cons (.var 0) (.cons (.bin .add (.blt .len (.cons (.var 3) .nil)) (.int 1)) .nil)))) (.seq (.asg 5 (.call law_draw (.cons (.var 0) (.cons (.int 4) .nil)))) (.seq (.ifs (.ands (.cons (.cmp .eq (.var 5) (.int 0)) (.cons (.cmp .lt (.var 4) (.blt .len (.cons (.var 3) .nil))) .nil))) (.seq (.ret (.bin .add (.slice (.var 3) .nil (.var 4)) (.slice (.var 3) (.bin .add (.var 4) (.int 1)) .nil))) .skip) .skip) (.seq (.ifs (.ands (.cons (.cmp .eq (.var 5) (.int 1)) (.cons (.cmp .lt (.var 4) (.blt .len (.cons (.var 3) .nil))) .nil))) (.seq (.ret (.bin .add (.bin .add (.slice (.var 3) .nil (.var 4)) (.lst (.cons (.ix (.var 3) (.var 4)) .nil))) (.slice (.var 3) (.var 4) .nil))) .skip) .skip) (.seq (.ifs (.cmp .eq (.var 5) (.int 2)) (.seq (.ret (.bin .add (.bin .add (.slice (.var 3) .nil (.var 4)) (.lst (.cons (.call law_event (.cons (.var 0) (.cons (.var 1) .nil))) .nil))) (.slice (.var 3) (.var 4) .nil))) .skip) .skip) (.seq (.ret (.bin .add (.bin .add (.slice (.var 3) .nil (.var 4)) (.lst (.cons (.call law_event (.cons (.var 0) (.cons (.var 1) .nil))) .nil))) (.slice (.var 3) (.bin .add (.var 4) (.int 1)) .nil))) .skip)))))))
theorem cutU_drop {α : Type} (l : List α) (n : Nat) : cutU l (some (n : Int)) none = l.drop n := by
  unfold cutU HT.sIx
  simp only
  rw [if_neg (by omega), Int.toNat_natCast]
  rcases Nat.le_total n l.length with h | h
  · rw [Nat.min_eq_left h]
    exact List.take_of_length_le (by rw [List.length_drop]; exact Nat.le_refl _)
  · rw [Nat.min_eq_right h, List.drop_length, List.drop_of_length_le h, List.take_nil]
/-- an event as laws draw it -/
def EvIn (n : Nat) (e : Ev) : Prop := e.ok ∧ ∀ f c, e = .see f c → 0 ≤ c + 1 ∧ c + 1 < ((n + 1 : Nat) : Int)
theorem event_ok {C : CE} {fd fp : Nat} (hd : DrawC C fd) (hp : PickC C fp) {nx bk ct : SU → Hm → Prop} {rt : QU} {M : Hm} {p : Addr × Addr} {n : Nat} (hn0 : 0 < n) (hn : n < 100) (d : Dr M p)
    (hq : ∀ e M', EvIn n e → Dr M' p → Fr p M M' → rt (encE e) M') : wS C (B_law_event fd fp) ⟨nx, rt, bk, ct⟩ (startU 3 [.ref p.1, .int n]) M := by
  unfold B_law_event
  (repeat decreasing_trivial_pre_omega)
  refine hd.lt M p 3 _ d (by decide) (by decide) fun r M1 hr d1 fr1 => ?_
  (repeat decreasing_trivial_pre_omega)
  by_cases h0 : ((r : Nat) : Int) = 0
  · (repeat decreasing_trivial_pre_omega)
    intro a ha
    (repeat decreasing_trivial_pre_omega)
    refine hp _ _ _ ((["r", "q", "p"] : List Str).map U.str) _ (d1.upd ha) (.inr ⟨a, rfl, d1.ne ha, um_same⟩) (by simp) (by simp) fun x M2 hx d2 fr2 => ?_
    rw [List.mem_map] at hx
    obtain ⟨x, hx, rfl⟩ := hx
    have ok : okS x = true := by revert x; decide +kernel
    (repeat decreasing_trivial_pre_omega)
    exact hq (.ask x) _ ⟨ok, by intro f c e; cases e⟩ d2 (fr1.trans ((Fr.upd (Fr.refl _ _) ha).trans fr2))
  (repeat decreasing_trivial_pre_omega)
  by_cases h1 : ((r : Nat) : Int) = 1
  · (repeat decreasing_trivial_pre_omega)
    intro a ha
    (repeat decreasing_trivial_pre_omega)
    refine hp _ _ _ ((["x", "y", "z", "r"] : List Str).map U.str) _ (d1.upd ha) (.inr ⟨a, rfl, d1.ne ha, um_same⟩) (by simp) (by simp) fun x M2 hx d2 fr2 => ?_
    rw [List.mem_map] at hx
    obtain ⟨x, hx, rfl⟩ := hx
    have ok : okS x = true := by revert x; decide +kernel
    (repeat decreasing_trivial_pre_omega)
    refine hd.lt _ p n _ d2 hn0 (by omega) fun c M3 hc d3 fr3 => ?_
    (repeat decreasing_trivial_pre_omega)
    exact hq (.put x c) _ ⟨ok, by intro f c e; cases e⟩ d3 ((fr1.trans ((Fr.upd (Fr.refl _ _) ha).trans fr2)).trans fr3)
  (repeat decreasing_trivial_pre_omega)
  intro a ha
  (repeat decreasing_trivial_pre_omega)
  refine hp _ _ _ ((["x", "y", "a", "r"] : List Str).map U.str) _ (d1.upd ha) (.inr ⟨a, rfl, d1.ne ha, um_same⟩) (by simp) (by simp) fun x M2 hx d2 fr2 => ?_
  rw [List.mem_map] at hx
  obtain ⟨x, hx, rfl⟩ := hx
  have ok : okS x = true := by revert x; decide +kernel
  (repeat decreasing_trivial_pre_omega)
  refine hd.lt _ p (n + 1) _ d2 (by omega) (by omega) fun c M3 hc d3 fr3 => ?_
  (repeat decreasing_trivial_pre_omega)
  exact hq (.see x (c - 1)) _ ⟨ok, by intro f c' e; injection e with e1 e2; omega⟩ d3 ((fr1.trans ((Fr.upd (Fr.refl _ _) ha).trans fr2)).trans fr3)
def EventC (C : CE) (f : Nat) : Prop := ∀ (M : Hm) (p : Addr × Addr) (n : Nat) (Q : QU), 0 < n → n < 100 → Dr M p → (∀ e M', EvIn n e → Dr M' p → Fr p M M' → Q (encE e) M') → C f [.ref p.1, .int n] M Q
theorem walk_ok {C : CE} {fd : Nat} (hd : DrawC C fd) {nx bk ct : SU → Hm → Prop} {rt : QU} {M : Hm} {p : Addr × Addr} {n j : Nat} {b : Bd} {pp : Str → Int → Prop} {pa ps : Str → Prop} (hpp : ∀ f c, pp f c → okS f = true) (hpa : ∀ f, pa f → okS f = true) (hps : ∀ f, ps f → okS f = true)
    (hn : n < 100) (hb : BP (n + 1) pp pa ps j b) (hj : j < 20) (d : Dr M p)
    (hq : ∀ (es : List Ev) (r : Addr) M', walkB b es = some .done → es.length < 20 → (∀ e ∈ es, EvIn n e) → Dr M' p → Fr p M M' → r ≠ p.1 → M' r = some (.lst (es.map encE)) → rt (.ref r) M') : wS C (B_law_walk fd) ⟨nx, rt, bk, ct⟩ (startU 7 [.ref p.1, .int n, encB b]) M := by
  unfold B_law_walk
  (repeat decreasing_trivial_pre_omega)
  intro x hx
  have nx1 := d.ne hx
  have nx2 := d.ne2 hx
  (repeat decreasing_trivial_pre_omega)
  refine ⟨by simp [LIM], by simp [LIM], ?_⟩
  rw [show (20 : Int) = ((20 : Nat) : Int) from rfl, rngU_nat]
  refine forL_by (enc := fun i : Nat => U.int (i : Nat)) (fun don rest σ M' => ∃ u5 u6 es k at_, σ = [some (.ref p.1), some (.int n), some (encB b), some (.ref x), some (encB at_), u5, u6] ∧ es.length = don.length ∧ walkB b es = some at_ ∧ BP (n + 1) pp pa ps k at_ ∧ k + es.length = j ∧ (∀ e ∈ es, EvIn n e) ∧ Dr M' p ∧ Fr p M M' ∧ M' x = some (.lst (es.map encE))) (List.range 20) ⟨_, _, [], j, b, rfl, rfl, rfl, hb, rfl, (by intro e he; cases he), d.upd hx, Fr.upd (Fr.refl _ _) hx, um_same⟩ ?_ ?_
  · intro don i rest σ M' k e ⟨u5, u6, es, k', at_, e1, e2, e3, e4, e5, e6, e7, e8, e9⟩ hk
    subst e1
    have hlen : don.length < 20 := by
      have : don.length + rest.length + 1 = 20 := by rw [← List.length_range (n := 20), ← e]; simp; omega
      omega
    have hl : (es.map encE).length < LIM := by rw [List.length_map]; unfold LIM; omega
    cases e4 with
    | done =>
      simp only [encB]
      (repeat decreasing_trivial_pre_omega)
      exact hq es x M' e3 (by omega) e6 e7 e8 nx1 e9
    | @put k2 f c b2 hf hb2 =>
      simp only [encB]
      (repeat decreasing_trivial_pre_omega)
      refine m_app e9 hl ?_
      (repeat decreasing_trivial_pre_omega)
      refine hk _ _ trivial ⟨_, _, es ++ [.put f c], k2, b2, rfl, by simp; omega, ?_, hb2, by simp; omega, ?_, e7.upd2 nx1 nx2, e8.upd hx, ?_⟩
      · rw [walkB_snoc, e3]; simp [stepB]
      · intro ev hev
        rcases List.mem_append.mp hev with hev | hev
        · exact e6 ev hev
        · rw [List.mem_singleton] at hev; subst hev
          exact ⟨hpp f c hf, by intro f c e; cases e⟩
      · rw [um_same, List.map_append]; rfl
    | @ask k2 f b2 hf hb2 =>
      simp only [encB]
      (repeat decreasing_trivial_pre_omega)
      refine m_app e9 hl ?_
      (repeat decreasing_trivial_pre_omega)
      refine hk _ _ trivial ⟨_, _, es ++ [.ask f], k2, b2, rfl, by simp; omega, ?_, hb2, by simp; omega, ?_, e7.upd2 nx1 nx2, e8.upd hx, ?_⟩
      · rw [walkB_snoc, e3]; simp [stepB]
      · intro ev hev
        rcases List.mem_append.mp hev with hev | hev
        · exact e6 ev hev
        · rw [List.mem_singleton] at hev; subst hev
          exact ⟨hpa f hf, by intro f c e; cases e⟩
      · rw [um_same, List.map_append]; rfl
    | @see k2 f bs hf hlb hbs =>
      simp only [encB]
      (repeat decreasing_trivial_pre_omega)
      refine hd.lt _ p (n + 1) _ e7 (by omega) (by omega) fun c M2 hc d2 fr2 => ?_
      have e9' := fr2.at_ nx1 e9
      (repeat decreasing_trivial_pre_omega)
      refine m_app e9' hl ?_
      (repeat decreasing_trivial_pre_omega)
      obtain ⟨b', hb', hx', hmem⟩ := atI_enc (bs := bs) (i := (c : Int) - 1 + 1) (by omega) (by rw [hlb]; omega) rfl
      refine x_tup hx' ?_
      (repeat decreasing_trivial_pre_omega)
      refine hk _ _ trivial ⟨_, _, es ++ [.see f ((c : Int) - 1)], k2, b', rfl, by simp; omega, ?_, hbs b' hmem, by simp; omega, ?_, d2.upd2 nx1 nx2, (e8.trans fr2).upd hx, ?_⟩
      · rw [walkB_snoc, e3]
        show stepB (.see f bs) (.see f ((c : Int) - 1)) = some b'
        simp only [stepB]
        rw [if_pos trivial, if_pos ⟨by omega, by rw [hlb]; omega⟩, hb']
      · intro ev hev
        rcases List.mem_append.mp hev with hev | hev
        · exact e6 ev hev
        · rw [List.mem_singleton] at hev; subst hev
          exact ⟨hps f hf, by intro f c e; injection e with q1 q2; omega⟩
      · rw [um_same, List.map_append]; rfl
  · intro σ M' ⟨u5, u6, es, k', at_, e1, e2, e3, e4, e5, e6, e7, e8, e9⟩
    rw [List.length_range] at e2
    omega
/-- a walk, bent -/
theorem spoil_ok {C : CE} {fe fd : Nat} (hd : DrawC C fd) (he : EventC C fe) {nx bk ct : SU → Hm → Prop} {rt : QU} {M : Hm} {p : Addr × Addr} {r : Addr} {n : Nat} {es : List Ev} (hn0 : 0 < n) (hn : n < 100) (d : Dr M p) (hr : r ≠ p.1) (hm : M r = some (.lst (es.map encE))) (hl : es.length < 20) (hes : ∀ e ∈ es, EvIn n e)
    (hq : ∀ (fs : List Ev) (q : Addr) M', (∀ e ∈ fs, EvIn n e) → Dr M' p → Fr p M M' → M' q = some (.lst (fs.map encE)) → rt (.ref q) M') : wS C (B_law_spoil fe fd) ⟨nx, rt, bk, ct⟩ (startU 6 [.ref p.1, .int n, .ref r]) M := by
  have hT : ∀ i e, e ∈ es.take i → EvIn n e := fun i e h => hes e (List.mem_of_mem_take h)
  have hD : ∀ i e, e ∈ es.drop i → EvIn n e := fun i e h => hes e (List.mem_of_mem_drop h)
  unfold B_law_spoil
  (repeat decreasing_trivial_pre_omega)
  intro x hx
  have dx := d.upd (o := .lst (es.map encE)) hx
  have nx1 := d.ne hx
  have nx2 := d.ne2 hx
  (repeat decreasing_trivial_pre_omega)
  rw [List.length_map]
  refine hd.lt _ p (es.length + 1) _ dx (by omega) (by omega) fun i M1 hi d1 fr1 => ?_
  (repeat decreasing_trivial_pre_omega)
  refine hd.lt _ p 4 _ d1 (by decide) (by decide) fun w M2 hw d2 fr2 => ?_
  have FR : Fr p M M2 := (Fr.upd (Fr.refl _ _) hx).trans (fr1.trans fr2)
  have e2 : M2 x = some (.lst (es.map encE)) := fr2.at_ nx1 (fr1.at_ nx1 um_same)
  (repeat decreasing_trivial_pre_omega)
  have hin : ∀ e ∈ es, EvIn n e := hes
  have i1 : ((i : Nat) : Int) + 1 = ((i + 1 : Nat) : Int) := by omega
  apply rest_of
  · intro rest
    by_cases h0 : ((w : Nat) : Int) = 0
    · (repeat decreasing_trivial_pre_omega)
      by_cases h1 : ((i : Nat) : Int) < (es.map encE).length
      · (repeat decreasing_trivial_pre_omega)
        intro a ha
        (repeat decreasing_trivial_pre_omega)
        intro b hb
        rw [cutU_take, i1, cutU_drop, ← List.map_take, ← List.map_drop] at *
        refine o_addL (um_old um_same hb) um_same (by simp [LIM]; omega) ?_
        intro c hc
        rw [← List.map_append]
        have sb : Sub M2 (um (um (um M2 a (.lst ((es.take i).map encE))) b (.lst ((es.drop (i + 1)).map encE))) c (.lst ((es.take i ++ es.drop (i + 1)).map encE))) := sub_new (sub_new (sub_new (Sub.refl M2) ha) hb) hc
        exact hq (es.take i ++ es.drop (i + 1)) _ _ (fun e he => (List.mem_append.mp he).elim (hT _ _) (hD _ _)) (d2.sub sb) (FR.trans sb.fr) um_same
      · (repeat decreasing_trivial_pre_omega)
        exact rest.out
    · (repeat decreasing_trivial_pre_omega)
      exact rest.out
  (repeat decreasing_trivial_pre_omega)
  apply rest_of
  · intro rest
    by_cases h0 : ((w : Nat) : Int) = 1
    · (repeat decreasing_trivial_pre_omega)
      by_cases h1 : ((i : Nat) : Int) < (es.map encE).length
      · (repeat decreasing_trivial_pre_omega)
        intro a ha
        have hi' : i < es.length := by rw [List.length_map] at h1; omega
        (repeat decreasing_trivial_pre_omega)
        refine x_lst (um_old e2 ha) (atI_nat (by rw [List.length_map]; exact hi')) ?_
        rw [List.getElem_map]
        (repeat decreasing_trivial_pre_omega)
        intro b hb
        rw [cutU_take, ← List.map_take] at *
        refine o_addL (um_old um_same hb) um_same (by simp [LIM]; omega) ?_
        intro c hc
        (repeat decreasing_trivial_pre_omega)
        intro a' ha'
        rw [cutU_drop, ← List.map_drop] at *
        refine o_addL (um_old um_same ha') um_same (by simp [LIM]; omega) ?_
        intro c' hc'
        have el : (es.take i).map encE ++ [encE es[i]] ++ (es.drop i).map encE = (es.take i ++ [es[i]] ++ es.drop i).map encE := by simp only [List.map_append, List.map_cons, List.map_nil]
        rw [el]
        refine hq (es.take i ++ [es[i]] ++ es.drop i) _ _ (fun e he => ?_) (d2.sub ?_) (FR.trans (Sub.fr ?_)) um_same
        · rcases List.mem_append.mp he with he | he
          · rcases List.mem_append.mp he with he | he
            · exact hT _ _ he
            · rw [List.mem_singleton] at he; subst he; exact hin _ (List.getElem_mem hi')
          · exact hD _ _ he
        all_goals exact sub_new (sub_new (sub_new (sub_new (sub_new (Sub.refl M2) ha) hb) hc) ha') hc'
      · (repeat decreasing_trivial_pre_omega)
        exact rest.out
    · (repeat decreasing_trivial_pre_omega)
      exact rest.out
  (repeat decreasing_trivial_pre_omega)
  apply rest_of
  · intro rest
    by_cases h0 : ((w : Nat) : Int) = 2
    · (repeat decreasing_trivial_pre_omega)
      intro a ha
      (repeat decreasing_trivial_pre_omega)
      refine he _ _ _ _ hn0 hn (d2.upd ha) fun ev M3 hev d3 fr3 => ?_
      have sa : Fr p M2 M3 := (Fr.upd (Fr.refl _ _) ha).trans fr3
      have ea := fr3.at_ (d2.ne ha) um_same
      have e3 := sa.at_ nx1 e2
      (repeat decreasing_trivial_pre_omega)
      intro b hb
      rw [cutU_take, ← List.map_take] at *
      refine o_addL (um_old ea hb) um_same (by simp [LIM]; omega) ?_
      intro c hc
      (repeat decreasing_trivial_pre_omega)
      intro a' ha'
      rw [cutU_drop, ← List.map_drop] at *
      refine o_addL (um_old um_same ha') um_same (by simp [LIM]; omega) ?_
      intro c' hc'
      have el : (es.take i).map encE ++ [encE ev] ++ (es.drop i).map encE = (es.take i ++ [ev] ++ es.drop i).map encE := by simp only [List.map_append, List.map_cons, List.map_nil]
      rw [el]
      refine hq (es.take i ++ [ev] ++ es.drop i) _ _ (fun e he => ?_) (d3.sub ?_) ((FR.trans sa).trans (Sub.fr ?_)) um_same
      · rcases List.mem_append.mp he with he | he
        · rcases List.mem_append.mp he with he | he
          · exact hT _ _ he
          · rw [List.mem_singleton] at he; subst he; exact hev
        · exact hD _ _ he
      all_goals exact sub_new (sub_new (sub_new (sub_new (Sub.refl M3) hb) hc) ha') hc'
    · (repeat decreasing_trivial_pre_omega)
      exact rest.out
  (repeat decreasing_trivial_pre_omega)
  intro a ha
  (repeat decreasing_trivial_pre_omega)
  refine he _ _ _ _ hn0 hn (d2.upd ha) fun ev M3 hev d3 fr3 => ?_
  have sa : Fr p M2 M3 := (Fr.upd (Fr.refl _ _) ha).trans fr3
  have ea := fr3.at_ (d2.ne ha) um_same
  have e3 := sa.at_ nx1 e2
  (repeat decreasing_trivial_pre_omega)
  intro b hb
  rw [cutU_take, ← List.map_take] at *
  refine o_addL (um_old ea hb) um_same (by simp [LIM]; omega) ?_
  intro c hc
  (repeat decreasing_trivial_pre_omega)
  intro a' ha'
  rw [i1, cutU_drop, ← List.map_drop] at *
  refine o_addL (um_old um_same ha') um_same (by simp [LIM]; omega) ?_
  intro c' hc'
  have el : (es.take i).map encE ++ [encE ev] ++ (es.drop (i + 1)).map encE = (es.take i ++ [ev] ++ es.drop (i + 1)).map encE := by simp only [List.map_append, List.map_cons, List.map_nil]
  rw [el]
  refine hq (es.take i ++ [ev] ++ es.drop (i + 1)) _ _ (fun e he => ?_) (d3.sub ?_) ((FR.trans sa).trans (Sub.fr ?_)) um_same
  · rcases List.mem_append.mp he with he | he
    · rcases List.mem_append.mp he with he | he
      · exact hT _ _ he
      · rw [List.mem_singleton] at he; subst he; exact hev
    · exact hD _ _ he
  all_goals exact sub_new (sub_new (sub_new (sub_new (Sub.refl M3) hb) hc) ha') hc'
end Pl

set_option maxHeartbeats 400000
/-! the laws' names and orders -/
namespace Pl
open PySem L2
/-- _law_rare: d, many -/
def B_law_rare (law_draw : Nat) : S := (.seq (.ret (.cmp .eq (.call law_draw (.cons (.var 0) (.cons (.var 1) .nil))) (.bin .fdiv (.var 1) (.int 2)))) .skip)
/-- _law_shuffled: d, row, left, found, k -/
def B_law_shuffled (law_draw : Nat) : S := (.seq (.asg 2 (.blt .list (.cons (.var 1) .nil))) (.seq (.asg 3 (.lst .nil)) (.seq (.for_ (.one 4) (.iRange (.blt .len (.cons (.var 2) .nil))) (.seq (.expr (.mth .append (.var 3) (.cons (.mth .popAt (.var 2) (.cons (.call law_draw (.cons (.var 0) (.cons (.blt .len (.cons (.var 2) .nil)) .nil))) .nil)) .nil))) .skip)) (.seq (.ret (.var 3)) .skip))))
/-- _law_files:  -/
def B_law_files : S := (.seq (.ret (.mth .split (.str "x y z lib gen conf objs tag page table o hdr mainfile ver docs w zz linkmap au cc") (.cons (.str " ") .nil))) .skip)
/-- _law_rules:  -/
def B_law_rules : S := (.seq (.ret (.mth .split (.str "r q p all link comp lexer bind pack test goal x lastrule u v deep") (.cons (.str " ") .nil))) .skip)
theorem rare_ok {C : CE} {fd : Nat} (hd : DrawC C fd) {nx bk ct : SU → Hm → Prop} {rt : QU} {M : Hm} {p : Addr × Addr} {many : Nat} (d : Dr M p) (h0 : 0 < many) (h1 : many < 1073741824)
    (hq : ∀ b M', Dr M' p → Fr p M M' → rt (.bl b) M') : wS C (B_law_rare fd) ⟨nx, rt, bk, ct⟩ (startU 2 [.ref p.1, .int many]) M := by
  unfold B_law_rare
  (repeat decreasing_trivial_pre_omega)
  refine hd.lt M p many _ d h0 h1 fun r M' hr d' fr => ?_
  (repeat decreasing_trivial_pre_omega)
  exact hq _ M' d' fr
def RareC (C : CE) (f : Nat) : Prop := ∀ (M : Hm) (p : Addr × Addr) (many : Nat) (Q : QU), Dr M p → 0 < many → many < 1073741824 → (∀ b M', Dr M' p → Fr p M M' → Q (.bl b) M') → C f [.ref p.1, .int many] M Q
/-- a list of names that is split -/
def NamesC (C : CE) (f : Nat) (P : Str → Prop) : Prop := ∀ (M : Hm) (Q : QU), (∀ (r : Addr) (l : List Str) M', Sub M M' → M r = none → M' r = some (.lst (l.map U.str)) → l ≠ [] → l.length ≤ 100 → (∀ x ∈ l, P x) → Q (.ref r) M') → C f [] M Q
theorem ixN_nat {n i : Nat} (h : i < n) : ixN n (i : Int) = some i := by
  unfold ixN
  rw [if_pos (by omega), if_pos (by omega), Int.toNat_natCast]
theorem eraseIdx_perm {α : Type} : ∀ (l : List α) (i : Nat) (h : i < l.length), (l[i] :: l.eraseIdx i).Perm l
  | [], i, h => by cases h
  | x :: xs, 0, _ => by simp
  | x :: xs, i + 1, h => by
    simp only [List.getElem_cons_succ, List.eraseIdx_cons_succ]
    exact (List.Perm.swap x (xs[i]'(by simpa using h)) (xs.eraseIdx i)).trans ((eraseIdx_perm xs i (by simpa using h)).cons x)
/-- what is shuffled is a list: in some order -/
theorem shuffled_ok {C : CE} {fd : Nat} (hd : DrawC C fd) {nx bk ct : SU → Hm → Prop} {rt : QU} {M : Hm} {p : Addr × Addr} {r : Addr} {us : List U} (d : Dr M p) (hr : M r = some (.lst us)) (hl : us.length < 100000)
    (hq : ∀ q ws M', ws.Perm us → Dr M' p → Fr p M M' → q ≠ p.1 → q ≠ p.2 → M q = none → M' q = some (.lst ws) → rt (.ref q) M') : wS C (B_law_shuffled fd) ⟨nx, rt, bk, ct⟩ (startU 5 [.ref p.1, .ref r]) M := by
  unfold B_law_shuffled
  (repeat decreasing_trivial_pre_omega)
  intro x hx
  have nx1 := d.ne hx
  have nx2 := d.ne2 hx
  (repeat decreasing_trivial_pre_omega)
  intro y hy
  have hyx : y ≠ x := um_noneN hy
  have hyM := um_none hy
  have ny1 := d.ne hyM
  have ny2 := d.ne2 hyM
  (repeat decreasing_trivial_pre_omega)
  refine ⟨by unfold LIM; omega, by unfold LIM; omega, ?_⟩
  rw [rngU_nat]
  refine forL_by (enc := fun i : Nat => U.int (i : Nat)) (fun don rest σ M' => ∃ u4 left found, σ = [some (.ref p.1), some (.ref r), some (.ref x), some (.ref y), u4] ∧ Dr M' p ∧ Fr p M M' ∧ M' x = some (.lst left) ∧ M' y = some (.lst found) ∧ left.length = rest.length ∧ (found ++ left).Perm us) (List.range us.length)
    ⟨_, us, [], rfl, (d.upd hx).upd hy, ((Fr.refl _ _).upd hx).upd hyM, um_old um_same hy, um_same, by rw [List.length_range], by simp⟩ ?_ ?_
  · intro don i rest σ M' k e ⟨u4, left, found, e1, e2, e3, e4, e5, e6, e7⟩ hk
    subst e1
    have hle : left.length ≤ us.length := by
      have := e7.length_eq
      rw [List.length_append] at this
      omega
    have hfl : found.length ≤ us.length := by
      have := e7.length_eq
      rw [List.length_append] at this
      omega
    have h0 : 0 < left.length := by rw [e6]; simp
    (repeat decreasing_trivial_pre_omega)
    refine hd.lt M' p left.length _ e2 h0 (by omega) fun j M2 hj d2 fr2 => ?_
    have e4' := fr2.at_ nx1 e4
    have e5' := fr2.at_ ny1 e5
    (repeat decreasing_trivial_pre_omega)
    refine m_popAt e4' (by unfold LIM; omega) (ixN_nat hj) (List.getElem?_eq_getElem hj) ?_
    (repeat decreasing_trivial_pre_omega)
    refine m_app (us := found) (um_oth hyx e5') (by unfold LIM; omega) ?_
    (repeat decreasing_trivial_pre_omega)
    refine hk _ _ trivial ⟨_, left.eraseIdx j, found ++ [left[j]], rfl, (d2.upd2 nx1 nx2).upd2 ny1 ny2, ((e3.trans fr2).upd hx).upd hyM, um_oth hyx.symm um_same, um_same, ?_, ?_⟩
    · rw [List.length_eraseIdx, if_pos hj, e6]; simp
    · refine List.Perm.trans ?_ e7
      rw [List.append_assoc]
      exact (eraseIdx_perm left j hj).append_left found
  · intro σ M' ⟨u4, left, found, e1, e2, e3, e4, e5, e6, e7⟩
    subst e1
    have hnil : left = [] := List.eq_nil_of_length_eq_zero e6
    subst hnil
    rw [List.append_nil] at e7
    (repeat decreasing_trivial_pre_omega)
    exact hq y found M' e7 e2 e3 ny1 ny2 hyM e5
end Pl

set_option maxHeartbeats 400000
/-! makings: what they are, in plain Lean -/
namespace Pl
open PySem L2
/-! ### dicts of texts -/
def kfind {α : Type} (l : List (Str × α)) (k : Str) : Option α := (l.find? fun p => decide (p.1 = k)).map (·.2)
def kput {α : Type} (l : List (Str × α)) (k : Str) (v : α) : List (Str × α) := if (kfind l k).isSome = true then l.map fun p => if p.1 = k then (p.1, v) else p else l ++ [(k, v)]
def dU {α : Type} (e : α → U) (l : List (Str × α)) : List (U × U) := l.map fun p => (U.str p.1, e p.2)
theorem kfind_cons {α : Type} (p : Str × α) (l : List (Str × α)) (k : Str) : kfind (p :: l) k = if p.1 = k then some p.2 else kfind l k := by
  unfold kfind
  rw [List.find?_cons]
  by_cases h : p.1 = k
  · simp [h]
  · simp [h]
theorem dU_find {α : Type} (e : α → U) (l : List (Str × α)) (k : Str) : dfind (dU e l) (.str k) = (kfind l k).map e := by
  induction l with
  | nil => rfl
  | cons p l ih =>
    show dfind ((U.str p.1, e p.2) :: dU e l) _ = _
    rw [dfind_cons, kfind_cons, ih]
    by_cases h : p.1 = k
    · rw [if_pos h, if_pos (by rw [h])]; rfl
    · rw [if_neg h, if_neg (fun z => h (by injection z))]
theorem dU_put {α : Type} (e : α → U) (l : List (Str × α)) (k : Str) (v : α) : dput (dU e l) (.str k) (e v) = dU e (kput l k v) := by
  unfold dput kput
  rw [dU_find, Option.isSome_map]
  by_cases h : (kfind l k).isSome = true
  · rw [if_pos h, if_pos h]
    unfold dU
    rw [List.map_map, List.map_map]
    refine List.map_congr_left fun p _ => ?_
    by_cases h2 : p.1 = k
    · simp [h2]
    · have h3 : ¬ U.str p.1 = U.str k := fun z => h2 (by injection z)
      simp [h2, h3]
  · rw [if_neg h, if_neg h]
    unfold dU
    rw [List.map_append]
    rfl
theorem dU_len {α : Type} (e : α → U) (l : List (Str × α)) : (dU e l).length = l.length := List.length_map _
theorem kput_len {α : Type} (l : List (Str × α)) (k : Str) (v : α) : (kput l k v).length ≤ l.length + 1 := by
  unfold kput
  split
  · rw [List.length_map]; omega
  · rw [List.length_append]; simp
theorem kput_mem {α : Type} {l : List (Str × α)} {k : Str} {v : α} {p : Str × α} (h : p ∈ kput l k v) : p ∈ l ∨ p = (k, v) := by
  unfold kput at h
  split at h
  · rw [List.mem_map] at h
    obtain ⟨q, hq, e⟩ := h
    by_cases h2 : q.1 = k
    · rw [if_pos h2] at e; right; rw [← e, h2]
    · rw [if_neg h2] at e; left; rw [← e]; exact hq
  · rcases List.mem_append.mp h with h | h
    · exact .inl h
    · exact .inr (List.mem_singleton.mp h)
theorem kfind_mem {α : Type} {l : List (Str × α)} {k : Str} {v : α} (h : kfind l k = some v) : (k, v) ∈ l := by
  induction l with
  | nil => cases h
  | cons p l ih =>
    rw [kfind_cons] at h
    by_cases h2 : p.1 = k
    · rw [if_pos h2] at h
      have e := Option.some.inj h
      rw [← e, ← h2]
      exact List.mem_cons_self
    · rw [if_neg h2] at h
      exact List.mem_cons_of_mem _ (ih h)
theorem kfind_isSome {α : Type} {l : List (Str × α)} {k : Str} : (kfind l k).isSome = decide (k ∈ l.map (·.1)) := by
  induction l with
  | nil => rfl
  | cons p l ih =>
    rw [kfind_cons]
    by_cases h : p.1 = k
    · rw [if_pos h]; simp [h]
    · rw [if_neg h, ih]
      have h' : ¬ k = p.1 := fun z => h z.symm
      simp [h']
theorem kput_keys {α : Type} (l : List (Str × α)) (k : Str) (v : α) : (kput l k v).map (·.1) = if k ∈ l.map (·.1) then l.map (·.1) else l.map (·.1) ++ [k] := by
  unfold kput
  rw [kfind_isSome]
  by_cases h : k ∈ l.map (·.1)
  · rw [if_pos (decide_eq_true h), if_pos h, List.map_map]
    refine List.map_congr_left fun p _ => ?_
    show (if p.1 = k then (p.1, v) else p).1 = p.1
    split <;> rfl
  · rw [if_neg (by simpa using h), if_neg h, List.map_append]
    rfl
theorem kput_nodup {α : Type} {l : List (Str × α)} {k : Str} {v : α} (h : (l.map (·.1)).Nodup) : ((kput l k v).map (·.1)).Nodup := by
  rw [kput_keys]
  split
  · exact h
  · rename_i h2
    exact List.nodup_append.mpr ⟨h, by simp, fun a ha b hb e => by rw [List.mem_singleton] at hb; subst hb; subst e; exact h2 ha⟩
/-! ### what a trace lays -/
def layM (es : List Ev) : List (Str × Int) := es.foldl (fun l e => match e with | .put f c => kput l f c | _ => l) []
theorem layM_snoc (es : List Ev) (e : Ev) : layM (es ++ [e]) = match e with | .put f c => kput (layM es) f c | _ => layM es := by
  unfold layM
  rw [List.foldl_append]
  rfl
theorem puts_lay (es : List Ev) : putsM es = dU U.int (layM es) := by
  induction es using snocs with
  | h0 => rfl
  | h1 es e ih =>
    rw [putsM_snoc, layM_snoc]
    cases e with
    | put f c => simp only; rw [ih, dU_put]
    | _ => exact ih
theorem layM_len (es : List Ev) : (layM es).length ≤ es.length := by
  have h := putsM_len es
  rwa [puts_lay, dU_len] at h
theorem layM_mem {es : List Ev} {p : Str × Int} (h : p ∈ layM es) : Ev.put p.1 p.2 ∈ es := by
  have h2 : (U.str p.1, U.int p.2) ∈ putsM es := by rw [puts_lay]; exact List.mem_map.mpr ⟨p, h, rfl⟩
  obtain ⟨f, c, h3, h4⟩ := putsM_mem h2
  simp only [Prod.mk.injEq, U.str.injEq, U.int.injEq] at h4
  rw [h4.1, h4.2]
  exact h3
/-! ### books -/
structure Bk where
  n : Nat
  heads : List Str
  rows : List (Str × Bd)
def encRow (r : Str × Bd) : U := .tup [.str r.1, encB r.2]
def encBk (b : Bk) : U := .tup [.int b.n, .dtp (b.heads.map U.str), .tup (b.rows.map encRow)]
def Bk.names (b : Bk) : List Str := b.rows.map (·.1)
def Bk.bodyOf (b : Bk) (r : Str) : Option Bd := kfind b.rows r
/-! ### states -/
structure Mst where
  done : List (Str × List Ev) := []
  order : List Str := []
  cont : List (Str × Int) := []
  owners : List (Str × Str) := []
  seen : List (Str × Str) := []
  moves : List Str := []
structure Fm where
  rule : Str
  at_ : Bd
  evs : List Ev
inductive Out where | broken (k f r o : Str) | stuck (l : List Str) | looks (i : Nat)
def encO : Out → U
  | .broken k f r o => .tup [.str "broken", .str k, .str f, .str r, .str o]
  | .stuck l => .tup [.str "stuck", .tup (l.map U.str)]
  | .looks i => .tup [.str "looks", .int i]
def optO : Option Out → U
  | none => .non
  | some o => encO o
def outO : Option Out → U
  | none => .tup [.str "done"]
  | some o => encO o
def readerM (b : Bk) (seen : List (Str × Str)) (rule f : Str) : Option Str := b.names.find? fun n => decide (n ≠ rule ∧ (f, n) ∈ seen)
def faultM (b : Bk) (st : Mst) (rule : Str) : List (Str × Int) → Option Out
  | [] => none
  | p :: l => if p.1 ∈ b.heads then some (.broken "source" p.1 rule "") else match kfind st.owners p.1 with
    | some o => some (.broken "twice" p.1 rule o)
    | none => match readerM b st.seen rule p.1 with
      | some n => some (.broken "late" p.1 rule n)
      | none => faultM b st rule l
def layDown (st : Mst) (rule : Str) (lay : List (Str × Int)) : Mst := { st with owners := lay.foldl (fun l p => kput l p.1 rule) st.owners, cont := lay.foldl (fun l p => kput l p.1 p.2) st.cont }
def finM (st : Mst) (rule : Str) (evs : List Ev) : Mst := { layDown st rule (layM evs) with done := kput st.done rule evs, order := st.order ++ [rule] }
def contentM (b : Bk) (wd : List Int) (st : Mst) (f : Str) : Int := if f ∈ b.heads then wd.getD (b.heads.idxOf f) 0 else (kfind st.cont f).getD (-1)
def mv (st : Mst) (r : Str) : Mst := { st with moves := st.moves ++ [r] }
def sn (st : Mst) (f r : Str) : Mst := { st with seen := st.seen ++ [(f, r)] }
/-- a step at the top of the stack -/
def stepM (b : Bk) (wd : List Int) (st : Mst) (init : List Fm) (f : Fm) : (Mst × List Fm) ⊕ (Mst × Out) := match f.at_ with
  | .done => (match faultM b (mv st f.rule) f.rule (layM f.evs) with
    | some o => .inr (mv st f.rule, o)
    | none => .inl (finM (mv st f.rule) f.rule f.evs, init))
  | .ask r k => if (kfind st.done r).isSome = true then .inl (mv st f.rule, init ++ [⟨f.rule, k, f.evs ++ [.ask r]⟩])
    else if r ∈ (init ++ [f]).map (·.rule) then .inr (st, .stuck (((init ++ [f]).map (·.rule)).drop (((init ++ [f]).map (·.rule)).idxOf r)))
    else match b.bodyOf r with
      | some bd => .inl (mv st r, (init ++ [f]) ++ [⟨r, bd, []⟩])
      | none => .inr (st, .stuck [])
  | .put fl c k => .inl (mv st f.rule, init ++ [⟨f.rule, k, f.evs ++ [.put fl c]⟩])
  | .see fl bs => (match kfind (layM f.evs) fl with
    | some c => .inl (mv st f.rule, init ++ [⟨f.rule, bs.getD (c + 1).toNat .done, f.evs ++ [.see fl c]⟩])
    | none => if contentM b wd st fl = -2 then .inr (sn (mv st f.rule) fl f.rule, .looks (b.heads.idxOf fl))
      else .inl (sn (mv st f.rule) fl f.rule, init ++ [⟨f.rule, bs.getD (contentM b wd st fl + 1).toNat .done, f.evs ++ [.see fl (contentM b wd st fl)]⟩]))
def runM (b : Bk) (wd : List Int) : Nat → Mst → List Fm → Mst × Option Out
  | 0, st, _ => (st, none)
  | n + 1, st, stack => match stack.reverse with
    | [] => (st, none)
    | f :: ri => match stepM b wd st ri.reverse f with
      | .inl (st', s') => runM b wd n st' s'
      | .inr (st', o) => (st', some o)
theorem runM_nil (b : Bk) (wd : List Int) (n : Nat) (st : Mst) : runM b wd n st [] = (st, none) := by cases n <;> rfl
theorem runM_snoc (b : Bk) (wd : List Int) (n : Nat) (st : Mst) (init : List Fm) (f : Fm) : runM b wd (n + 1) st (init ++ [f]) = match stepM b wd st init f with
    | .inl (st', s') => runM b wd n st' s'
    | .inr (st', o) => (st', some o) := by
  show (match (init ++ [f]).reverse with
    | [] => _
    | f :: ri => _) = _
  rw [List.reverse_append, List.reverse_singleton, List.singleton_append]
  simp only [List.reverse_reverse]
/-! ### how long -/
mutual
def ht : Bd → Nat
  | .done => 0
  | .put _ _ b => ht b + 1
  | .ask _ b => ht b + 1
  | .see _ bs => htL bs + 1
def htL : List Bd → Nat
  | [] => 0
  | b :: bs => max (ht b) (htL bs)
end
theorem htL_mem {bs : List Bd} {b : Bd} (h : b ∈ bs) : ht b ≤ htL bs := by
  induction bs with
  | nil => cases h
  | cons x bs ih =>
    unfold htL
    rcases List.mem_cons.mp h with rfl | h
    · omega
    · have := ih h; omega
theorem ht_getD (bs : List Bd) (i : Nat) : ht (bs.getD i .done) ≤ htL bs := by
  rw [List.getD_eq_getElem?_getD]
  cases h : bs[i]? with
  | none => exact Nat.zero_le _
  | some b => exact htL_mem (List.mem_of_getElem? h)
theorem BP_ht {n : Nat} {pp : Str → Int → Prop} {pa ps : Str → Prop} {k : Nat} {b : Bd} (h : BP n pp pa ps k b) : ht b ≤ k := by
  induction h with
  | done => exact Nat.zero_le _
  | put _ _ ih => unfold ht; omega
  | ask _ _ ih => unfold ht; omega
  | @see k f bs _ _ _ ih =>
    unfold ht
    have : htL bs ≤ k := by
      have h2 : ∀ bs' : List Bd, (∀ b ∈ bs', ht b ≤ k) → htL bs' ≤ k := fun bs' => by
        induction bs' with
        | nil => intro _; exact Nat.zero_le _
        | cons x bs' ih2 =>
          intro h
          unfold htL
          have h1 := h x List.mem_cons_self
          have h2 := ih2 fun b hb => h b (List.mem_cons_of_mem _ hb)
          omega
      exact h2 bs ih
    omega
def Bk.deep (b : Bk) : Nat := htL (b.rows.map (·.2))
def leftM (b : Bk) (st : Mst) (stack : List Fm) : Nat := (b.names.filter fun r => decide ((kfind st.done r).isSome = false ∧ r ∉ stack.map (·.rule))).length
def mu (b : Bk) (st : Mst) (stack : List Fm) : Nat := leftM b st stack * (b.deep + 2) + (stack.map fun f => ht f.at_ + 1).sum
theorem filter_le {α : Type} {p q : α → Bool} (h : ∀ a, p a = true → q a = true) : ∀ l : List α, (l.filter p).length ≤ (l.filter q).length
  | [] => Nat.le_refl _
  | a :: l => by
    rw [List.filter_cons, List.filter_cons]
    have ih := filter_le h l
    cases hp : p a with
    | true => rw [if_pos rfl, if_pos (h a hp)]; simp; exact ih
    | false =>
      cases hq : q a with
      | true => simp; omega
      | false => simpa using ih
theorem filter_lt {α : Type} {p q : α → Bool} (h : ∀ a, p a = true → q a = true) {x : α} (hp : p x = false) (hq : q x = true) : ∀ l : List α, x ∈ l → (l.filter p).length < (l.filter q).length
  | [], hx => by cases hx
  | a :: l, hx => by
    rw [List.filter_cons, List.filter_cons]
    rcases List.mem_cons.mp hx with rfl | hx
    · rw [if_neg (by rw [hp]; decide), if_pos hq]
      have := filter_le h l
      simp; omega
    · have ih := filter_lt h hp hq l hx
      cases h1 : p a with
      | true => rw [if_pos rfl, if_pos (h a h1)]; simp; exact ih
      | false =>
        cases h2 : q a with
        | true => simp; omega
        | false => simpa using ih
theorem body_names {b : Bk} {r : Str} {bd : Bd} (h : b.bodyOf r = some bd) : r ∈ b.names ∧ ht bd ≤ b.deep := by
  have h2 := kfind_mem h
  exact ⟨List.mem_map.mpr ⟨_, h2, rfl⟩, htL_mem (List.mem_map.mpr ⟨_, h2, rfl⟩)⟩
theorem kput_some {α : Type} (l : List (Str × α)) (k : Str) (v : α) (r : Str) : (kfind (kput l k v) r).isSome = decide (r = k ∨ (kfind l r).isSome = true) := by
  rw [kfind_isSome, kput_keys, kfind_isSome]
  by_cases h : k ∈ l.map (·.1)
  · rw [if_pos h]
    by_cases h2 : r = k
    · subst h2; simp only [h, true_or, decide_true]
    · simp [h2]
  · rw [if_neg h]
    by_cases h2 : r = k
    · subst h2; simp
    · simp [h2]
theorem mu_step {b : Bk} {wd : List Int} {st st' : Mst} {init s' : List Fm} {f : Fm} (h : stepM b wd st init f = .inl (st', s')) : mu b st' s' < mu b st (init ++ [f]) ∧ st'.moves.length = st.moves.length + 1 := by
  have same : ∀ (st' : Mst) (g : Fm), st'.done = st.done → g.rule = f.rule → ht g.at_ < ht f.at_ → mu b st' (init ++ [g]) < mu b st (init ++ [f]) := fun st' g h1 h2 h3 => by
    have e : leftM b st' (init ++ [g]) = leftM b st (init ++ [f]) := by
      unfold leftM
      rw [h1, List.map_append, List.map_append, List.map_singleton, List.map_singleton, h2]
    unfold mu
    rw [e]
    simp only [List.map_append, List.map_singleton, List.sum_append, List.sum_singleton]
    omega
  unfold stepM at h
  split at h
  · rename_i ha
    split at h
    · cases h
    · cases h
      refine ⟨?_, by unfold finM layDown mv; simp⟩
      have hle : leftM b (finM (mv st f.rule) f.rule f.evs) init ≤ leftM b st (init ++ [f]) := by
        unfold leftM
        refine filter_le (fun r hr => ?_) _
        simp only [decide_eq_true_eq] at hr ⊢
        have hd : (finM (mv st f.rule) f.rule f.evs).done = kput st.done f.rule f.evs := rfl
        rw [hd, kput_some] at hr
        obtain ⟨h1, h2⟩ := hr
        simp only [decide_eq_false_iff_not, not_or] at h1
        refine ⟨by simpa using h1.2, ?_⟩
        rw [List.map_append, List.mem_append]
        rintro (h3 | h3)
        · exact h2 h3
        · simp at h3; exact h1.1 h3
      unfold mu
      rw [List.map_append, List.sum_append]
      have := Nat.mul_le_mul_right (b.deep + 2) hle
      simp
      omega
  · rename_i r k ha
    split at h
    · cases h
      exact ⟨same _ _ rfl rfl (by rw [ha]; simp [ht]), by simp [mv]⟩
    · rename_i hd
      split at h
      · cases h
      · rename_i hn
        split at h
        · rename_i bd hb
          cases h
          obtain ⟨b1, b2⟩ := body_names hb
          refine ⟨?_, by simp [mv]⟩
          have hlt : leftM b (mv st r) ((init ++ [f]) ++ [⟨r, bd, []⟩]) < leftM b st (init ++ [f]) := by
            unfold leftM
            refine filter_lt (x := r) (fun a ha => ?_) ?_ ?_ _ b1
            · simp only [decide_eq_true_eq] at ha ⊢
              refine ⟨ha.1, fun z => ha.2 ?_⟩
              rw [List.map_append]
              exact List.mem_append_left _ z
            · simp
            · simp only [decide_eq_true_eq]
              exact ⟨by simpa using hd, hn⟩
          unfold mu
          rw [List.map_append (l₁ := init ++ [f]), List.sum_append]
          have := Nat.mul_le_mul_right (b.deep + 2) hlt
          rw [Nat.succ_mul] at this
          simp
          simp at this
          omega
        · cases h
  · rename_i fl c k ha
    cases h
    exact ⟨same _ _ rfl rfl (by rw [ha]; simp [ht]), by simp [mv]⟩
  · rename_i fl bs ha
    split at h
    · cases h
      exact ⟨same _ _ rfl rfl (by rw [ha]; have := ht_getD bs; simp only [ht]; exact Nat.lt_succ_of_le (this _)), by simp [mv]⟩
    · split at h
      · cases h
      · cases h
        exact ⟨same _ _ rfl rfl (by rw [ha]; have := ht_getD bs; simp only [ht]; exact Nat.lt_succ_of_le (this _)), by simp [mv, sn]⟩
theorem mu_pos {b : Bk} {st : Mst} {init : List Fm} {f : Fm} : 0 < mu b st (init ++ [f]) := by
  unfold mu
  rw [List.map_append, List.sum_append]
  simp
  omega
theorem runM_enough {b : Bk} {wd : List Int} : ∀ (n m : Nat) (st : Mst) (stack : List Fm), mu b st stack ≤ n → n ≤ m → runM b wd m st stack = runM b wd n st stack := by
  intro n
  induction n with
  | zero =>
    intro m st stack h _
    rcases List.eq_nil_or_concat stack with rfl | ⟨init, f, rfl⟩
    · rw [runM_nil, runM_nil]
    · have := @mu_pos b st init f; rw [List.concat_eq_append] at h; omega
  | succ n ih =>
    intro m st stack h hm
    rcases List.eq_nil_or_concat stack with rfl | ⟨init, f, rfl⟩
    · rw [runM_nil, runM_nil]
    · rw [List.concat_eq_append] at h ⊢
      obtain ⟨m, rfl⟩ : ∃ i, m = i + 1 := ⟨m - 1, by omega⟩
      rw [runM_snoc, runM_snoc]
      cases e : stepM b wd st init f with
      | inr x => rfl
      | inl x =>
        obtain ⟨st', s'⟩ := x
        have := (mu_step e).1
        exact ih m st' s' (by omega) (by omega)
/-- a goal's making, from a state -/
def goalM (b : Bk) (wd : List Int) (st : Mst) (goal : Str) : Mst × Option Out := match b.bodyOf goal with
  | some bd => runM b wd (mu b (mv st goal) [⟨goal, bd, []⟩]) (mv st goal) [⟨goal, bd, []⟩]
  | none => (st, none)
def goalsM (b : Bk) (wd : List Int) : Mst → List Str → Mst × Option Out
  | st, [] => (st, none)
  | st, g :: gs => if (kfind st.done g).isSome = true then goalsM b wd st gs else match goalM b wd st g with
    | (st', none) => goalsM b wd st' gs
    | (st', some o) => (st', some o)
end Pl

set_option maxHeartbeats 400000
/-! the program's makings -/
namespace Pl
open PySem L2
/-- rule_names: book, pair -/
def B_rule_names : S := (.seq (.ret (.blt .tuple (.cons (.comp [("pair", 1)] (.one 1) (.iSeq (.ix (.var 0) (.int 2))) .nil (.ix (.var 1) (.int 0))) .nil))) .skip)
/-- body_of: book, rule, name, body -/
def B_body_of : S := (.seq (.for_ (.many [2, 3]) (.iSeq (.ix (.var 0) (.int 2))) (.seq (.ifs (.cmp .eq (.var 2) (.var 1)) (.seq (.ret (.var 3)) .skip) .skip) .skip)) (.seq .nvr .skip))
/-- Making.__init__: self, book, world -/
def B_Making_init : S := (.seq (.setF "Making" "rulebook" (.var 0) (.var 1)) (.seq (.setF "Making" "around" (.var 0) (.var 2)) (.seq (.setF "Making" "done" (.var 0) (.dnew false)) (.seq (.setF "Making" "order" (.var 0) (.lst .nil)) (.seq (.setF "Making" "owners" (.var 0) (.dnew false)) (.seq (.setF "Making" "contents" (.var 0) (.dnew false)) (.seq (.setF "Making" "seen" (.var 0) (.dnew false)) (.seq (.setF "Making" "moves" (.var 0) (.lst .nil)) .skip))))))))
/-- Making.look: self, rule, own, file -/
def B_Making_look (Making_content_of : Nat) : S := (.seq (.ifs (.cmp .isin (.var 3) (.var 2)) (.seq (.ret (.ix (.var 2) (.var 3))) .skip) .skip) (.seq (.setIx (.setdef (.fld "seen" (.var 0)) (.var 3) (.dnew false)) (.var 1) (.bl true)) (.seq (.ret (.meth "Making" "content_of" Making_content_of (.var 0) (.cons (.var 3) .nil))) .skip)))
/-- Making.content_of: self, file, place, name -/
def B_Making_content_of : S := (.seq (.for_ (.many [2, 3]) (.iEnum (.ix (.fld "rulebook" (.var 0)) (.int 1))) (.seq (.ifs (.cmp .eq (.var 3) (.var 1)) (.seq (.ret (.ix (.fld "around" (.var 0)) (.var 2))) .skip) .skip) .skip)) (.seq (.ret (.dget (.fld "contents" (.var 0)) (.var 1) (.neg (.int 1)))) .skip))
/-- Making.faults_of: self, rule, lay, file, content, name -/
def B_Making_faults_of (rule_names : Nat) : S := (.seq (.for_ (.many [3, 4]) (.iSeq (.var 2)) (.seq (.ifs (.cmp .isin (.var 3) (.ix (.fld "rulebook" (.var 0)) (.int 1))) (.seq (.ret (.tup (.cons (.str "broken") (.cons (.str "source") (.cons (.var 3) (.cons (.var 1) (.cons (.str "") .nil))))))) .skip) .skip) (.seq (.ifs (.cmp .isin (.var 3) (.fld "owners" (.var 0))) (.seq (.ret (.tup (.cons (.str "broken") (.cons (.str "twice") (.cons (.var 3) (.cons (.var 1) (.cons (.ix (.fld "owners" (.var 0)) (.var 3)) .nil))))))) .skip) .skip) (.seq (.for_ (.one 5) (.iSeq (.call rule_names (.cons (.fld "rulebook" (.var 0)) .nil))) (.seq (.ifs (.ands (.cons (.cmp .ne (.var 5) (.var 1)) (.cons (.cmp .isin (.var 5) (.dget (.fld "seen" (.var 0)) (.var 3) (.dnew false))) .nil))) (.seq (.ret (.tup (.cons (.str "broken") (.cons (.str "late") (.cons (.var 3) (.cons (.var 1) (.cons (.var 5) .nil))))))) .skip) .skip) .skip)) .skip)))) (.seq (.ret .non) .skip))
/-- Making.lay_down: self, rule, lay, file, content -/
def B_Making_lay_down : S := (.seq (.for_ (.many [3, 4]) (.iSeq (.var 2)) (.seq (.setIx (.fld "owners" (.var 0)) (.var 3) (.var 1)) (.seq (.setIx (.fld "contents" (.var 0)) (.var 3) (.var 4)) .skip))) .skip)
/-- Making.finish: self, rule, trace, lay, broken -/
def B_Making_finish (Making_lay_down : Nat) (Making_faults_of : Nat) (lay_of : Nat) : S := (.seq (.asg 3 (.call lay_of (.cons (.var 2) .nil))) (.seq (.asg 4 (.meth "Making" "faults_of" Making_faults_of (.var 0) (.cons (.var 1) (.cons (.var 3) .nil)))) (.seq (.ifs (.isN (.var 4)) (.seq (.expr (.meth "Making" "lay_down" Making_lay_down (.var 0) (.cons (.var 1) (.cons (.var 3) .nil)))) (.seq (.setIx (.fld "done" (.var 0)) (.var 1) (.var 2)) (.seq (.expr (.mth .append (.fld "order" (.var 0)) (.cons (.var 1) .nil))) .skip))) .skip) (.seq (.ret (.var 4)) .skip))))
/-- Making.laid_files: self, file -/
def B_Making_laid_files : S := (.seq (.ret (.blt .tuple (.cons (.comp [("file", 1)] (.one 1) (.iSeq (.blt .sorted (.cons (.fld "owners" (.var 0)) .nil))) .nil (.tup (.cons (.var 1) (.cons (.ix (.fld "contents" (.var 0)) (.var 1)) (.cons (.ix (.fld "owners" (.var 0)) (.var 1)) .nil))))) .nil))) .skip)
/-- Making.done_traces: self, rule -/
def B_Making_done_traces : S := (.seq (.ret (.blt .tuple (.cons (.comp [("rule", 1)] (.one 1) (.iSeq (.fld "order" (.var 0))) .nil (.tup (.cons (.var 1) (.cons (.ix (.fld "done" (.var 0)) (.var 1)) .nil)))) .nil))) .skip)
/-- Frame.__init__: self, rule, body -/
def B_Frame_init : S := (.seq (.setF "Frame" "rule" (.var 0) (.var 1)) (.seq (.setF "Frame" "at" (.var 0) (.var 2)) (.seq (.setF "Frame" "events" (.var 0) (.lst .nil)) (.seq (.setF "Frame" "own" (.var 0) (.dnew false)) .skip))))
/-- step_frame: making, frame, word, content -/
def B_step_frame (Making_look : Nat) : S := (.seq (.asg 2 (.ix (.fld "at" (.var 1)) (.int 0))) (.seq (.expr (.mth .append (.fld "moves" (.var 0)) (.cons (.fld "rule" (.var 1)) .nil))) (.seq (.ifs (.cmp .eq (.var 2) (.str "put")) (.seq (.setIx (.fld "own" (.var 1)) (.ix (.fld "at" (.var 1)) (.int 1)) (.ix (.fld "at" (.var 1)) (.int 2))) (.seq (.expr (.mth .append (.fld "events" (.var 1)) (.cons (.tup (.cons (.str "put") (.cons (.ix (.fld "at" (.var 1)) (.int 1)) (.cons (.ix (.fld "at" (.var 1)) (.int 2)) .nil)))) .nil))) (.seq (.setF "Frame" "at" (.var 1) (.ix (.fld "at" (.var 1)) (.int 3))) (.seq (.ret (.int 0)) .skip)))) .skip) (.seq (.asg 3 (.meth "Making" "look" Making_look (.var 0) (.cons (.fld "rule" (.var 1)) (.cons (.fld "own" (.var 1)) (.cons (.ix (.fld "at" (.var 1)) (.int 1)) .nil))))) (.seq (.ifs (.cmp .eq (.var 3) (.neg (.int 2))) (.seq (.ret (.neg (.int 2))) .skip) .skip) (.seq (.expr (.mth .append (.fld "events" (.var 1)) (.cons (.tup (.cons (.str "see") (.cons (.ix (.fld "at" (.var 1)) (.int 1)) (.cons (.var 3) .nil)))) .nil))) (.seq (.setF "Frame" "at" (.var 1) (.ix (.ix (.fld "at" (.var 1)) (.int 2)) (.bin .add (.var 3) (.int 1)))) (.seq (.ret (.int 0)) .skip))))))))
/-- run_goal: making, goal, stack, frame, word, broken, asked, under, one -/
def B_run_goal (Making_finish : Nat) (begin : Nat) (step_frame : Nat) : S := (.seq (.asg 2 (.lst (.cons (.call begin (.cons (.var 0) (.cons (.var 1) .nil))) .nil))) (.seq (.whl (.var 2) (.seq (.asg 3 (.ix (.var 2) (.bin .sub (.blt .len (.cons (.var 2) .nil)) (.int 1)))) (.seq (.asg 4 (.ix (.fld "at" (.var 3)) (.int 0))) (.seq (.ifs (.cmp .eq (.var 4) (.str "done")) (.seq (.expr (.mth .append (.fld "moves" (.var 0)) (.cons (.fld "rule" (.var 3)) .nil))) (.seq (.asg 5 (.meth "Making" "finish" Making_finish (.var 0) (.cons (.fld "rule" (.var 3)) (.cons (.blt .tuple (.cons (.fld "events" (.var 3)) .nil)) .nil)))) (.seq (.ifs (.notN (.var 5)) (.seq (.ret (.var 5)) .skip) .skip) (.seq (.expr (.mth .pop (.var 2) .nil)) .skip)))) (.seq (.ifs (.cmp .eq (.var 4) (.str "ask")) (.seq (.asg 6 (.ix (.fld "at" (.var 3)) (.int 1))) (.seq (.asg 7 (.comp [("one", 8)] (.one 8) (.iSeq (.var 2)) .nil (.fld "rule" (.var 8)))) (.seq (.ifs (.cmp .isin (.var 6) (.fld "done" (.var 0))) (.seq (.expr (.mth .append (.fld "moves" (.var 0)) (.cons (.fld "rule" (.var 3)) .nil))) (.seq (.expr (.mth .append (.fld "events" (.var 3)) (.cons (.tup (.cons (.str "ask") (.cons (.var 6) .nil))) .nil))) (.seq (.setF "Frame" "at" (.var 3) (.ix (.fld "at" (.var 3)) (.int 2))) .skip))) (.seq (.ifs (.cmp .isin (.var 6) (.var 7)) (.seq (.ret (.tup (.cons (.str "stuck") (.cons (.blt .tuple (.cons (.slice (.var 7) (.mth .index (.var 7) (.cons (.var 6) .nil)) .nil) .nil)) .nil)))) .skip) (.seq (.expr (.mth .append (.var 2) (.cons (.call begin (.cons (.var 0) (.cons (.var 6) .nil))) .nil))) .skip)) .skip)) .skip))) (.seq (.ifs (.cmp .eq (.call step_frame (.cons (.var 0) (.cons (.var 3) .nil))) (.neg (.int 2))) (.seq (.ret (.tup (.cons (.str "looks") (.cons (.tidx (.ix (.fld "rulebook" (.var 0)) (.int 1)) (.ix (.fld "at" (.var 3)) (.int 1))) .nil)))) .skip) .skip) .skip)) .skip)) .skip)))) (.seq (.ret .non) .skip)))
/-- begin: making, rule -/
def B_begin (Frame_init : Nat) (body_of : Nat) : S := (.seq (.expr (.mth .append (.fld "moves" (.var 0)) (.cons (.var 1) .nil))) (.seq (.ret (.make "Frame" Frame_init (.cons (.var 1) (.cons (.call body_of (.cons (.fld "rulebook" (.var 0)) (.cons (.var 1) .nil))) .nil)))) .skip))
/-- run_goals: making, goals, goal, ended -/
def B_run_goals (run_goal : Nat) : S := (.seq (.for_ (.one 2) (.iSeq (.var 1)) (.seq (.ifs (.cmp .notin (.var 2) (.fld "done" (.var 0))) (.seq (.asg 3 (.call run_goal (.cons (.var 0) (.cons (.var 2) .nil)))) (.seq (.ifs (.notN (.var 3)) (.seq (.ret (.var 3)) .skip) .skip) .skip)) .skip) .skip)) (.seq (.ret (.tup (.cons (.str "done") .nil))) .skip))
/-- make_partial: book, partial, goals, making, outcome -/
def B_make_partial (Making_done_traces : Nat) (Making_laid_files : Nat) (run_goals : Nat) (Making_init : Nat) : S := (.seq (.asg 3 (.make "Making" Making_init (.cons (.var 0) (.cons (.var 1) .nil)))) (.seq (.asg 4 (.call run_goals (.cons (.var 3) (.cons (.var 2) .nil)))) (.seq (.ret (.tup (.cons (.var 4) (.cons (.meth "Making" "laid_files" Making_laid_files (.var 3) .nil) (.cons (.meth "Making" "done_traces" Making_done_traces (.var 3) .nil) (.cons (.blt .tuple (.cons (.fld "moves" (.var 3)) .nil)) .nil)))))) .skip)))
/-- make: book, world, goals -/
def B_make (make_partial : Nat) : S := (.seq (.ret (.call make_partial (.cons (.var 0) (.cons (.var 1) (.cons (.var 2) .nil))))) .skip)
/-- alone_partial: book, partial, rule, making, outcome -/
def B_alone_partial (run_goals : Nat) (Making_init : Nat) : S := (.seq (.asg 3 (.make "Making" Making_init (.cons (.var 0) (.cons (.var 1) .nil)))) (.seq (.asg 4 (.call run_goals (.cons (.var 3) (.cons (.tup (.cons (.var 2) .nil)) .nil)))) (.seq (.ifs (.cmp .ne (.var 4) (.tup (.cons (.str "done") .nil))) (.seq (.ret (.tup (.cons (.var 4) (.cons (.tup .nil) .nil)))) .skip) .skip) (.seq (.ret (.tup (.cons (.var 4) (.cons (.ix (.fld "done" (.var 3)) (.var 2)) .nil)))) .skip))))
/-- alone: book, world, rule -/
def B_alone (alone_partial : Nat) : S := (.seq (.ret (.call alone_partial (.cons (.var 0) (.cons (.var 1) (.cons (.var 2) .nil))))) .skip)
theorem nodup_map_inj {α β : Type} {f : α → β} : ∀ {l : List α}, (l.map f).Nodup → ∀ {x y : α}, x ∈ l → y ∈ l → f x = f y → x = y
  | [], _, _, _, hx, _, _ => by cases hx
  | a :: l, h, x, y, hx, hy, e => by
    rw [List.map_cons, List.nodup_cons] at h
    rcases List.mem_cons.mp hx with hx1 | hx1
    · rcases List.mem_cons.mp hy with hy1 | hy1
      · rw [hx1, hy1]
      · exact absurd (by rw [← hx1, e]; exact List.mem_map.mpr ⟨y, hy1, rfl⟩) h.1
    · rcases List.mem_cons.mp hy with hy1 | hy1
      · exact absurd (by rw [← hy1, ← e]; exact List.mem_map.mpr ⟨x, hx1, rfl⟩) h.1
      · exact nodup_map_inj h.2 hx1 hy1 e
/-! ### where a making lies -/
structure MA where
  p : Addr
  d : Addr
  r : Addr
  w : Addr
  c : Addr
  s : Addr
  m : Addr
  sk : List (Str × Addr)
def MA.fix (A : MA) : List Addr := [A.p, A.d, A.r, A.w, A.c, A.s, A.m]
def MA.all (A : MA) : List Addr := A.fix ++ A.sk.map (·.2)
def trU (t : List Ev) : U := .tup (t.map encE)
def mkF (b : Bk) (wd : List Int) (A : MA) : List (Str × U) := [("rulebook", encBk b), ("around", .tup (wd.map U.int)), ("done", .ref A.d), ("order", .ref A.r), ("owners", .ref A.w), ("contents", .ref A.c), ("seen", .ref A.s), ("moves", .ref A.m)]
structure MkAt (M : Hm) (A : MA) (b : Bk) (wd : List Int) (st : Mst) : Prop where
  nd : A.all.Nodup
  p : M A.p = some (.obj "Making" (mkF b wd A))
  d : M A.d = some (.dct false false (dU trU st.done))
  r : M A.r = some (.lst (st.order.map U.str))
  w : M A.w = some (.dct false false (dU U.str st.owners))
  c : M A.c = some (.dct false false (dU U.int st.cont))
  s : M A.s = some (.dct false false (dU U.ref A.sk))
  m : M A.m = some (.lst (st.moves.map U.str))
  inn : ∀ x ∈ A.sk, ∃ ks : List (Str × Unit), M x.2 = some (.dct false false (dU (fun _ => .bl true) ks)) ∧ (∀ r, (kfind ks r).isSome = decide ((x.1, r) ∈ st.seen)) ∧ ks.length ≤ st.seen.length
  cov : ∀ y ∈ st.seen, (kfind A.sk y.1).isSome = true
  skl : A.sk.length ≤ st.seen.length
  skn : (A.sk.map (·.1)).Nodup
structure MNe (A : MA) : Prop where
  pd : A.p ≠ A.d
  pr : A.p ≠ A.r
  pw : A.p ≠ A.w
  pc : A.p ≠ A.c
  ps : A.p ≠ A.s
  pm : A.p ≠ A.m
  dr : A.d ≠ A.r
  dw : A.d ≠ A.w
  dc : A.d ≠ A.c
  ds : A.d ≠ A.s
  dm : A.d ≠ A.m
  rw : A.r ≠ A.w
  rc : A.r ≠ A.c
  rs : A.r ≠ A.s
  rm : A.r ≠ A.m
  wc : A.w ≠ A.c
  ws : A.w ≠ A.s
  wm : A.w ≠ A.m
  cs : A.c ≠ A.s
  cm : A.c ≠ A.m
  sm : A.s ≠ A.m
  sk : ∀ x ∈ A.sk, x.2 ≠ A.p ∧ x.2 ≠ A.d ∧ x.2 ≠ A.r ∧ x.2 ≠ A.w ∧ x.2 ≠ A.c ∧ x.2 ≠ A.s ∧ x.2 ≠ A.m
  skn : (A.sk.map (·.2)).Nodup
theorem MA.ne {A : MA} (h : A.all.Nodup) : MNe A := by
  unfold MA.all MA.fix at h
  simp only [List.cons_append, List.nil_append, List.nodup_cons, List.mem_cons, not_or] at h
  obtain ⟨⟨h1, h2, h3, h4, h5, h6, h7⟩, ⟨g1, g2, g3, g4, g5, g6⟩, ⟨i1, i2, i3, i4, i5⟩, ⟨j1, j2, j3, j4⟩, ⟨k1, k2, k3⟩, ⟨l1, l2⟩, m1, n1⟩ := h
  have z : ∀ (q : Addr), q ∉ A.sk.map (·.2) → ∀ x ∈ A.sk, x.2 ≠ q := fun q hq x hx e => hq (e ▸ List.mem_map.mpr ⟨x, hx, rfl⟩)
  exact ⟨h1, h2, h3, h4, h5, h6, g1, g2, g3, g4, g5, i1, i2, i3, i4, j1, j2, j3, k1, k2, l1, fun x hx => ⟨z _ h7 x hx, z _ g6 x hx, z _ i5 x hx, z _ j4 x hx, z _ k3 x hx, z _ l2 x hx, z _ m1 x hx⟩, n1⟩
/-- all that is not A's stays; what is A's then was A's, or is new -/
structure Keep (A A' : MA) (M M' : Hm) : Prop where
  old : ∀ a x, a ∉ A.all → M a = some x → M' a = some x
  new : ∀ a, a ∈ A'.all → a ∈ A.all ∨ M a = none
theorem Keep.refl (A : MA) (M : Hm) : Keep A A M M := ⟨fun _ _ _ h => h, fun _ h => .inl h⟩
theorem Keep.out {A A' : MA} {M M' : Hm} (k : Keep A A' M M') {a : Addr} {x : MO} (h : a ∉ A.all) (e : M a = some x) : a ∉ A'.all := fun z => by
  rcases k.new a z with h2 | h2
  · exact h h2
  · rw [e] at h2; cases h2
theorem Keep.trans {A A' A'' : MA} {M M' M'' : Hm} (k : Keep A A' M M') (l : Keep A' A'' M' M'') : Keep A A'' M M'' := by
  refine ⟨fun a x h e => l.old a x (k.out h e) (k.old a x h e), fun a h => ?_⟩
  rcases l.new a h with h2 | h2
  · exact k.new a h2
  · by_cases z : a ∈ A.all
    · exact .inl z
    · cases e : M a with
      | none => exact .inr rfl
      | some x => rw [k.old a x z e] at h2; cases h2
theorem MkAt.same {M M' : Hm} {A : MA} {b : Bk} {wd : List Int} {st : Mst} (h : MkAt M A b wd st) (e : ∀ a ∈ A.all, M' a = M a) : MkAt M' A b wd st := by
  have mf : ∀ a, a ∈ A.fix → M' a = M a := fun a ha => e a (List.mem_append_left _ ha)
  refine ⟨h.nd, ?_, ?_, ?_, ?_, ?_, ?_, ?_, fun x hx => ?_, h.cov, h.skl, h.skn⟩
  · rw [mf _ (by simp [MA.fix])]; exact h.p
  · rw [mf _ (by simp [MA.fix])]; exact h.d
  · rw [mf _ (by simp [MA.fix])]; exact h.r
  · rw [mf _ (by simp [MA.fix])]; exact h.w
  · rw [mf _ (by simp [MA.fix])]; exact h.c
  · rw [mf _ (by simp [MA.fix])]; exact h.s
  · rw [mf _ (by simp [MA.fix])]; exact h.m
  · rw [e _ (List.mem_append_right _ (List.mem_map.mpr ⟨x, hx, rfl⟩))]; exact h.inn x hx
theorem MkAt.off {M : Hm} {A : MA} {b : Bk} {wd : List Int} {st : Mst} {a : Addr} {o : MO} (h : MkAt M A b wd st) (ha : a ∉ A.all) : MkAt (um M a o) A b wd st :=
  h.same fun x hx => um_ne fun z => ha (z ▸ hx)
theorem MkAt.sub {M M' : Hm} {A : MA} {b : Bk} {wd : List Int} {st : Mst} (h : MkAt M A b wd st) (s : Sub M M') : MkAt M' A b wd st := by
  refine ⟨h.nd, s _ _ h.p, s _ _ h.d, s _ _ h.r, s _ _ h.w, s _ _ h.c, s _ _ h.s, s _ _ h.m, fun x hx => ?_, h.cov, h.skl, h.skn⟩
  obtain ⟨ks, h1, h2⟩ := h.inn x hx
  exact ⟨ks, s _ _ h1, h2⟩
theorem MkAt.has {M : Hm} {A : MA} {b : Bk} {wd : List Int} {st : Mst} (h : MkAt M A b wd st) {a : Addr} (ha : a ∈ A.all) : ∃ o, M a = some o := by
  unfold MA.all MA.fix at ha
  rcases List.mem_append.mp ha with ha | ha
  · simp only [List.mem_cons, List.not_mem_nil, or_false] at ha
    rcases ha with rfl | rfl | rfl | rfl | rfl | rfl | rfl
    · exact ⟨_, h.p⟩
    · exact ⟨_, h.d⟩
    · exact ⟨_, h.r⟩
    · exact ⟨_, h.w⟩
    · exact ⟨_, h.c⟩
    · exact ⟨_, h.s⟩
    · exact ⟨_, h.m⟩
  · obtain ⟨x, hx, rfl⟩ := List.mem_map.mp ha
    obtain ⟨ks, h1, _⟩ := h.inn x hx
    exact ⟨_, h1⟩
theorem MkAt.new {M : Hm} {A : MA} {b : Bk} {wd : List Int} {st : Mst} (h : MkAt M A b wd st) {a : Addr} (ha : M a = none) : a ∉ A.all := fun z => by
  obtain ⟨o, e⟩ := h.has z
  rw [ha] at e
  cases e
theorem keep_um {A : MA} {M : Hm} {a : Addr} {o : MO} (ha : a ∈ A.all) : Keep A A M (um M a o) := ⟨fun b x hb e => (um_ne fun z => hb (by rw [z]; exact ha)).trans e, fun _ h => .inl h⟩
section
variable {M : Hm} {A : MA} {b : Bk} {wd : List Int} {st : Mst}
theorem MkAt.setm (h : MkAt M A b wd st) (x : Str) : MkAt (um M A.m (.lst ((st.moves ++ [x]).map U.str))) A b wd (mv st x) := by
  have n := MA.ne h.nd
  refine ⟨h.nd, um_oth n.pm h.p, um_oth n.dm h.d, um_oth n.rm h.r, um_oth n.wm h.w, um_oth n.cm h.c, um_oth n.sm h.s, um_same, fun y hy => ?_, h.cov, h.skl, h.skn⟩
  obtain ⟨ks, h1, h2⟩ := h.inn y hy
  exact ⟨ks, um_oth (n.sk y hy).2.2.2.2.2.2 h1, h2⟩
theorem MkAt.setw (h : MkAt M A b wd st) (f r : Str) : MkAt (um M A.w (.dct false false (dU U.str (kput st.owners f r)))) A b wd { st with owners := kput st.owners f r } := by
  have n := MA.ne h.nd
  refine ⟨h.nd, um_oth n.pw h.p, um_oth n.dw h.d, um_oth n.rw h.r, um_same, um_oth n.wc.symm h.c, um_oth n.ws.symm h.s, um_oth n.wm.symm h.m, fun y hy => ?_, h.cov, h.skl, h.skn⟩
  obtain ⟨ks, h1, h2⟩ := h.inn y hy
  exact ⟨ks, um_oth (n.sk y hy).2.2.2.1 h1, h2⟩
theorem MkAt.setc (h : MkAt M A b wd st) (f : Str) (r : Int) : MkAt (um M A.c (.dct false false (dU U.int (kput st.cont f r)))) A b wd { st with cont := kput st.cont f r } := by
  have n := MA.ne h.nd
  refine ⟨h.nd, um_oth n.pc h.p, um_oth n.dc h.d, um_oth n.rc h.r, um_oth n.wc h.w, um_same, um_oth n.cs.symm h.s, um_oth n.cm.symm h.m, fun y hy => ?_, h.cov, h.skl, h.skn⟩
  obtain ⟨ks, h1, h2⟩ := h.inn y hy
  exact ⟨ks, um_oth (n.sk y hy).2.2.2.2.1 h1, h2⟩
theorem MkAt.setd (h : MkAt M A b wd st) (f : Str) (r : List Ev) : MkAt (um M A.d (.dct false false (dU trU (kput st.done f r)))) A b wd { st with done := kput st.done f r } := by
  have n := MA.ne h.nd
  refine ⟨h.nd, um_oth n.pd h.p, um_same, um_oth n.dr.symm h.r, um_oth n.dw.symm h.w, um_oth n.dc.symm h.c, um_oth n.ds.symm h.s, um_oth n.dm.symm h.m, fun y hy => ?_, h.cov, h.skl, h.skn⟩
  obtain ⟨ks, h1, h2⟩ := h.inn y hy
  exact ⟨ks, um_oth (n.sk y hy).2.1 h1, h2⟩
theorem MkAt.setr (h : MkAt M A b wd st) (f : Str) : MkAt (um M A.r (.lst ((st.order ++ [f]).map U.str))) A b wd { st with order := st.order ++ [f] } := by
  have n := MA.ne h.nd
  refine ⟨h.nd, um_oth n.pr h.p, um_oth n.dr h.d, um_same, um_oth n.rw.symm h.w, um_oth n.rc.symm h.c, um_oth n.rs.symm h.s, um_oth n.rm.symm h.m, fun y hy => ?_, h.cov, h.skl, h.skn⟩
  obtain ⟨ks, h1, h2⟩ := h.inn y hy
  exact ⟨ks, um_oth (n.sk y hy).2.2.1 h1, h2⟩
theorem kput_bl {ks : List (Str × Unit)} {r : Str} : dput (dU (fun _ => U.bl true) ks) (.str r) (.bl true) = dU (fun _ => .bl true) (kput ks r ()) := dU_put (fun _ : Unit => U.bl true) ks r ()
theorem seen_mem {l : List (Str × Str)} {f r g q : Str} : (f, r) ∈ l ++ [(g, q)] ↔ (f, r) ∈ l ∨ (f = g ∧ r = q) := by simp
/-- a file that is seen again -/
theorem MkAt.sees (h : MkAt M A b wd st) {f : Str} {a : Addr} (hf : kfind A.sk f = some a) {ks : List (Str × Unit)} (hk : M a = some (.dct false false (dU (fun _ => .bl true) ks))) (r : Str) :
    MkAt (um M a (.dct false false (dU (fun _ => .bl true) (kput ks r ())))) A b wd (sn st f r) := by
  have n := MA.ne h.nd
  have hm := kfind_mem hf
  obtain ⟨a1, a2, a3, a4, a5, a6, a7⟩ := n.sk _ hm
  refine ⟨h.nd, um_oth a1.symm h.p, um_oth a2.symm h.d, um_oth a3.symm h.r, um_oth a4.symm h.w, um_oth a5.symm h.c, um_oth a6.symm h.s, um_oth a7.symm h.m, fun y hy => ?_, fun y hy => ?_, ?_, h.skn⟩
  · obtain ⟨ks', h1, h2, h3⟩ := h.inn y hy
    by_cases e : y.2 = a
    · have ey : y = (f, a) := by
        have := nodup_map_inj n.skn hy hm e
        exact this
      subst ey
      rw [hk] at h1
      simp only [Option.some.injEq, MO.dct.injEq, true_and] at h1
      have hks : ks = ks' := by
        have inj : ∀ {x y : List (Str × Unit)}, dU (fun _ => U.bl true) x = dU (fun _ => .bl true) y → x = y := fun {x} => by
          induction x with
          | nil => intro y e; cases y with
            | nil => rfl
            | cons _ _ => cases e
          | cons p x ih => intro y e; cases y with
            | nil => cases e
            | cons q y =>
              simp only [dU, List.map_cons, List.cons.injEq, Prod.mk.injEq, U.str.injEq, and_true] at e
              obtain ⟨p1, p2⟩ := p
              obtain ⟨q1, q2⟩ := q
              rw [show p1 = q1 from e.1, ih (y := y) e.2]
        exact inj h1
      subst hks
      refine ⟨_, um_same, fun q => ?_, ?_⟩
      · rw [kput_some, h2 q]
        simp only [sn, seen_mem, true_and]
        by_cases hq : q = r
        · simp [hq]
        · simp [hq]
      · have := kput_len ks r ()
        simp only [sn, List.length_append, List.length_singleton]
        omega
    · refine ⟨ks', um_oth e h1, fun q => ?_, by simp only [sn, List.length_append]; omega⟩
      rw [h2 q]
      have hne : y.1 ≠ f := fun z => e (by
        have e2 := nodup_map_inj h.skn hy hm z
        rw [e2])
      simp only [sn, seen_mem, hne, false_and, or_false]
  · rcases List.mem_append.mp hy with hy | hy
    · exact h.cov y hy
    · rw [List.mem_singleton] at hy
      subst hy
      show (kfind A.sk f).isSome = true
      rw [hf]; rfl
  · have := h.skl
    simp only [sn, List.length_append]
    omega
/-- a file that is seen for the first time -/
theorem MkAt.first (h : MkAt M A b wd st) {f : Str} {a : Addr} (hf : kfind A.sk f = none) (ha : M a = none) (r : Str) :
    MkAt (um (um M a (.dct false false (dU (fun _ => .bl true) [(r, ())]))) A.s (.dct false false (dU U.ref (A.sk ++ [(f, a)])))) { A with sk := A.sk ++ [(f, a)] } b wd (sn st f r) := by
  have n := MA.ne h.nd
  have na : ∀ x o, M x = some o → x ≠ a := fun x o e z => by rw [z, ha] at e; cases e
  have hnf : f ∉ A.sk.map (·.1) := fun z => by
    have e : (kfind A.sk f).isSome = true := by rw [kfind_isSome]; exact decide_eq_true z
    rw [hf] at e
    cases e
  have hns : ∀ r, (f, r) ∉ st.seen := fun r z => by
    have := h.cov _ z
    rw [hf] at this
    cases this
  refine ⟨?_, um_oth n.ps (um_oth (na _ _ h.p) h.p), um_oth n.ds (um_oth (na _ _ h.d) h.d), um_oth n.rs (um_oth (na _ _ h.r) h.r), um_oth n.ws (um_oth (na _ _ h.w) h.w), um_oth n.cs (um_oth (na _ _ h.c) h.c), um_same, um_oth n.sm.symm (um_oth (na _ _ h.m) h.m), fun y hy => ?_, fun y hy => ?_, ?_, ?_⟩
  · have h1 := h.nd
    have h2 : a ∉ A.all := h.new ha
    show (A.fix ++ (A.sk ++ [(f, a)]).map (·.2)).Nodup
    rw [List.map_append, ← List.append_assoc]
    exact List.nodup_append.mpr ⟨h1, by simp, fun x hx y hy e => by rw [List.map_singleton, List.mem_singleton] at hy; subst hy; subst e; exact h2 hx⟩
  · rcases List.mem_append.mp hy with hy | hy
    · obtain ⟨ks, h1, h2, h3⟩ := h.inn y hy
      refine ⟨ks, um_oth (n.sk y hy).2.2.2.2.2.1 (um_oth (na _ _ h1) h1), fun q => ?_, by simp only [sn, List.length_append]; omega⟩
      rw [h2 q]
      have hne : y.1 ≠ f := fun z => hnf (z ▸ List.mem_map.mpr ⟨y, hy, rfl⟩)
      simp only [sn, seen_mem, hne, false_and, or_false]
    · rw [List.mem_singleton] at hy
      subst hy
      refine ⟨[(r, ())], um_oth (fun z => na _ _ h.s (z : a = A.s).symm) um_same, fun q => ?_, by simp [sn]⟩
      rw [kfind_cons]
      by_cases hq : r = q
      · subst hq; simp [sn]
      · have : ¬ q = r := fun z => hq z.symm
        rw [if_neg hq]
        simp [sn, kfind, hns q, this]
  · show (kfind (A.sk ++ [(f, a)]) y.1).isSome = true
    rw [kfind_isSome, List.map_append]
    refine decide_eq_true (List.mem_append.mpr ?_)
    rcases List.mem_append.mp hy with hy | hy
    · have := h.cov y hy
      rw [kfind_isSome] at this
      exact .inl (of_decide_eq_true this)
    · rw [List.mem_singleton] at hy
      subst hy
      exact .inr (by simp)
  · have := h.skl
    simp only [sn, List.length_append, List.length_singleton]
    omega
  · show ((A.sk ++ [(f, a)]).map (·.1)).Nodup
    rw [List.map_append]
    exact List.nodup_append.mpr ⟨h.skn, by simp, fun x hx y hy e => by rw [List.map_singleton, List.mem_singleton] at hy; subst hy; subst e; exact hnf hx⟩
end
end Pl

set_option maxHeartbeats 400000
/-! the program's makings: look, faults, finish -/
namespace Pl
open PySem L2
theorem heads_get {l : List Str} {i : Nat} {f : Str} (h : l[i]? = some f) (hn : ∀ j, j < i → l[j]? ≠ some f) : l.idxOf f = i := by
  induction l generalizing i with
  | nil => simp at h
  | cons x l ih =>
    cases i with
    | zero =>
      simp at h
      subst h
      simp
    | succ i =>
      have hx : x ≠ f := fun z => hn 0 (Nat.succ_pos _) (by simp [z])
      rw [List.idxOf_cons]
      have : (x == f) = false := by simpa using hx
      rw [this]
      simp only [cond_false]
      rw [ih (by simpa using h) (fun j hj => by have := hn (j + 1) (by omega); simpa using this)]
theorem names_ok {C : CE} {nx bk ct : SU → Hm → Prop} {rt : QU} {M : Hm} {b : Bk} (hl : b.rows.length < LIM) (hq : ∀ M', Sub M M' → rt (.tup (b.names.map U.str)) M') : wS C B_rule_names ⟨nx, rt, bk, ct⟩ (startU 2 [encBk b]) M := by
  unfold B_rule_names encBk
  (repeat decreasing_trivial_pre_omega)
  refine compL_by (enc := encRow) (fun don rest acc M' => M' = M ∧ acc = don.map fun r => .str r.1) b.rows ⟨rfl, rfl⟩ ?_ ?_
  · intro don x rest acc M' k e ⟨e1, e2⟩ hk
    subst e1 e2
    unfold encRow
    (repeat decreasing_trivial_pre_omega)
    refine hk _ _ trivial (fun _ => ?_) ⟨rfl, by simp⟩
    have : don.length + rest.length + 1 = b.rows.length := by rw [← e]; simp; omega
    rw [List.length_map]
    omega
  · intro acc M' ⟨e1, e2⟩
    subst e1 e2
    intro p hp
    (repeat decreasing_trivial_pre_omega)
    have e : b.names.map U.str = b.rows.map (fun r => U.str r.1) := by unfold Bk.names; rw [List.map_map]; rfl
    rw [e] at hq
    exact hq _ (sub_um (Sub.refl _) hp)
def NamesF (C : CE) (f : Nat) : Prop := ∀ (M : Hm) (b : Bk) (Q : QU), b.rows.length < LIM → (∀ M', Sub M M' → Q (.tup (b.names.map U.str)) M') → C f [encBk b] M Q
theorem bodyOf_ok {C : CE} {nx bk ct : SU → Hm → Prop} {rt : QU} {M : Hm} {b : Bk} {r : Str} {bd : Bd} (hb : b.bodyOf r = some bd) (hq : rt (encB bd) M) : wS C B_body_of ⟨nx, rt, bk, ct⟩ (startU 4 [encBk b, .str r]) M := by
  unfold B_body_of encBk
  (repeat decreasing_trivial_pre_omega)
  refine forL_by (enc := encRow) (fun don rest σ M' => M' = M ∧ kfind rest r = some bd ∧ ∃ u2 u3, σ = [some (.tup [.int b.n, .dtp (b.heads.map U.str), .tup (b.rows.map encRow)]), some (.str r), u2, u3]) b.rows ⟨rfl, hb, _, _, rfl⟩ ?_ ?_
  · intro don x rest σ M' k e ⟨e1, e2, u2, u3, e3⟩ hk
    subst e1 e3
    unfold encRow
    rw [kfind_cons] at e2
    (repeat decreasing_trivial_pre_omega)
    refine i_ifd (fun h => ?_) (fun h => ?_)
    · rw [if_pos h] at e2
      (repeat decreasing_trivial_pre_omega)
      rw [Option.some.inj e2]
      exact hq
    · rw [if_neg h] at e2
      (repeat decreasing_trivial_pre_omega)
      exact hk _ _ trivial ⟨rfl, e2, _, _, rfl⟩
  · intro σ M' ⟨_, e2, _⟩
    cases e2
def BodyF (C : CE) (f : Nat) : Prop := ∀ (M : Hm) (b : Bk) (r : Str) (bd : Bd) (Q : QU), b.bodyOf r = some bd → Q (encB bd) M → C f [encBk b, .str r] M Q
theorem content_ok {C : CE} {nx bk ct : SU → Hm → Prop} {rt : QU} {M : Hm} {A : MA} {b : Bk} {wd : List Int} {st : Mst} {f : Str} (h : MkAt M A b wd st) (hw : wd.length = b.heads.length) (hq : rt (.int (contentM b wd st f)) M) :
    wS C B_Making_content_of ⟨nx, rt, bk, ct⟩ (startU 4 [.ref A.p, .str f]) M := by
  have hp := h.p
  have hc := h.c
  unfold mkF at hp
  unfold encBk at hp
  unfold B_Making_content_of
  (repeat decreasing_trivial_pre_omega)
  refine forL_enum (enc := U.str) (fun don rest σ M' => M' = M ∧ f ∉ don ∧ ∃ u2 u3, σ = [some (.ref A.p), some (.str f), u2, u3]) b.heads ⟨rfl, by simp, _, _, rfl⟩ ?_ ?_
  · intro don x rest σ M' k e ⟨e1, e2, u2, u3, e3⟩ hk
    subst e1 e3
    (repeat decreasing_trivial_pre_omega)
    refine i_ifd (fun hx => ?_) (fun hx => ?_)
    · (repeat decreasing_trivial_pre_omega)
      have hi : don.length < wd.length := by rw [hw, ← e]; simp
      have hix : b.heads.idxOf f = don.length := by
        refine heads_get (by rw [← e, ← hx]; simp) fun j hj z => e2 ?_
        rw [← e, List.getElem?_append_left hj] at z
        exact List.mem_of_getElem? z
      refine x_tup (v := .int wd[don.length]) (by rw [atI_nat (by rw [List.length_map]; exact hi), List.getElem_map]) ?_
      have hc2 : contentM b wd st f = wd[don.length] := by
        unfold contentM
        rw [if_pos (by rw [← e, ← hx]; simp), hix, List.getD_eq_getElem?_getD, List.getElem?_eq_getElem hi]
        rfl
      rw [← hc2]
      exact hq
    · (repeat decreasing_trivial_pre_omega)
      refine hk _ _ trivial ⟨rfl, fun z => ?_, _, _, rfl⟩
      rcases List.mem_append.mp z with z | z
      · exact e2 z
      · exact hx (List.mem_singleton.mp z).symm
  · intro σ M' ⟨e1, e2, u2, u3, e3⟩
    subst e1 e3
    (repeat decreasing_trivial_pre_omega)
    refine d_get hc rfl ?_
    rw [dU_find]
    have hc2 : contentM b wd st f = (kfind st.cont f).getD (-1) := by
      unfold contentM
      rw [if_neg e2]
    rw [hc2] at hq
    cases hk : kfind st.cont f with
    | none => rw [hk] at hq; exact hq
    | some v => rw [hk] at hq; exact hq
def ContentF (C : CE) (g : Nat) : Prop := ∀ (M : Hm) (A : MA) (b : Bk) (wd : List Int) (st : Mst) (f : Str) (Q : QU), MkAt M A b wd st → wd.length = b.heads.length → Q (.int (contentM b wd st f)) M → C g [.ref A.p, .str f] M Q
theorem kfind_some_of {α : Type} {l : List (Str × α)} {k : Str} (h : (kfind l k).isSome = true) : ∃ v, kfind l k = some v := Option.isSome_iff_exists.mp h
/-- a look: by the own puts, else by the making, which notes it -/
theorem look_ok {C : CE} {fc : Nat} (hcn : ContentF C fc) {nx bk ct : SU → Hm → Prop} {rt : QU} {M : Hm} {A : MA} {b : Bk} {wd : List Int} {st : Mst} {rule f : Str} {o : Addr} {evs : List Ev} (h : MkAt M A b wd st) (hw : wd.length = b.heads.length) (ho : M o = some (.dct false false (dU U.int (layM evs))))
    (hl : st.seen.length < 90000)
    (hq1 : ∀ c, kfind (layM evs) f = some c → rt (.int c) M)
    (hq2 : ∀ A' M', A'.p = A.p → kfind (layM evs) f = none → MkAt M' A' b wd (sn st f rule) → Keep A A' M M' → rt (.int (contentM b wd st f)) M') :
    wS C (B_Making_look fc) ⟨nx, rt, bk, ct⟩ (startU 4 [.ref A.p, .str rule, .ref o, .str f]) M := by
  have hp := h.p
  have hs := h.s
  have n := MA.ne h.nd
  unfold mkF at hp
  unfold B_Making_look
  (repeat decreasing_trivial_pre_omega)
  refine in_dct ho rfl ?_
  rw [dU_find, Option.isSome_map]
  cases hk : kfind (layM evs) f with
  | some c =>
    refine i_ift rfl ?_
    (repeat decreasing_trivial_pre_omega)
    refine x_dct ho rfl (by rw [dU_find, hk]; rfl) ?_
    exact hq1 c hk
  | none =>
    refine i_iff rfl ?_
    (repeat decreasing_trivial_pre_omega)
    have hskl : A.sk.length ≤ st.seen.length := h.skl
    intro a ha
    cases hf : kfind A.sk f with
    | some q =>
      have hm := kfind_mem hf
      obtain ⟨ks, h1, h2, h3⟩ := h.inn _ hm
      refine sd_old (um_old hs ha) rfl (by rw [dU_len]; unfold LIM; omega) (by rw [dU_find, hf]; rfl) ?_
      (repeat decreasing_trivial_pre_omega)
      refine st_dct (um_old h1 ha) rfl (by rw [dU_len]; unfold LIM; omega) ?_
      rw [kput_bl]
      have hM := (h.sub (sub_um (Sub.refl _) ha)).sees hf (M := um M a (.dct false false [])) (um_old h1 ha) rule
      have hMp := hM.p
      (repeat decreasing_trivial_pre_omega)
      refine hcn _ _ _ _ _ _ _ hM hw ?_
      refine hq2 A _ rfl hk hM ?_
      have k1 : Keep A A M (um M a (.dct false false [])) := ⟨fun x y _ e => um_old e ha, fun _ z => .inl z⟩
      exact k1.trans (keep_um (List.mem_append_right _ (List.mem_map.mpr ⟨_, hm, rfl⟩)))
    | none =>
      refine sd_new (um_old hs ha) rfl (by rw [dU_len]; unfold LIM; omega) (by rw [dU_find, hf]; rfl) ?_
      have na : A.s ≠ a := ne_of_old hs ha
      (repeat decreasing_trivial_pre_omega)
      refine st_dct (um_oth na.symm um_same) rfl (by simp [LIM]) ?_
      have e1 : dput [] (.str rule) (.bl true) = dU (fun _ : Unit => U.bl true) [(rule, ())] := rfl
      have e2 : dU U.ref A.sk ++ [(U.str f, U.ref a)] = dU U.ref (A.sk ++ [(f, a)]) := by unfold dU; rw [List.map_append]; rfl
      rw [e1, e2]
      have hM := h.first hf ha rule
      have e3 : um (um (um M a (.dct false false [])) A.s (.dct false false (dU U.ref (A.sk ++ [(f, a)])))) a (.dct false false (dU (fun _ => .bl true) [(rule, ())])) =
          um (um M a (.dct false false (dU (fun _ => .bl true) [(rule, ())]))) A.s (.dct false false (dU U.ref (A.sk ++ [(f, a)]))) := by
        rw [um_comm na, um_um]
      rw [e3]
      have hMp : _ = some (MO.obj "Making" _) := hM.p
      change um _ _ _ A.p = _ at hMp
      (repeat decreasing_trivial_pre_omega)
      refine hcn _ { A with sk := A.sk ++ [(f, a)] } _ _ _ _ _ hM hw ?_
      refine hq2 { A with sk := A.sk ++ [(f, a)] } _ rfl hk hM ⟨fun x y hx e => ?_, fun x hx => ?_⟩
      · have nx1 : x ≠ A.s := fun z => hx (by rw [z]; exact List.mem_append_left _ (by simp [MA.fix]))
        exact um_oth nx1 (um_old e ha)
      · have hx : x ∈ A.fix ++ (A.sk ++ [(f, a)]).map (·.2) := hx
        rw [List.map_append, ← List.append_assoc] at hx
        rcases List.mem_append.mp hx with hx | hx
        · exact .inl hx
        · rw [List.map_singleton, List.mem_singleton] at hx
          subst hx
          exact .inr ha
def LookF (C : CE) (g : Nat) : Prop := ∀ (M : Hm) (A : MA) (b : Bk) (wd : List Int) (st : Mst) (rule f : Str) (o : Addr) (evs : List Ev) (Q : QU), MkAt M A b wd st → wd.length = b.heads.length → M o = some (.dct false false (dU U.int (layM evs))) → st.seen.length < 90000 →
  (∀ c, kfind (layM evs) f = some c → Q (.int c) M) → (∀ A' M', A'.p = A.p → kfind (layM evs) f = none → MkAt M' A' b wd (sn st f rule) → Keep A A' M M' → Q (.int (contentM b wd st f)) M') → C g [.ref A.p, .str rule, .ref o, .str f] M Q
/-! ### faults -/
theorem strs_all (l : List Str) : (l.map U.str).all isKey = true := by
  rw [List.all_map]
  exact List.all_eq_true.mpr fun _ _ => rfl
theorem mem_strs {f : Str} {l : List Str} : (U.str f ∈ l.map U.str) ↔ f ∈ l := by
  rw [List.mem_map]
  constructor
  · rintro ⟨g, hg, e⟩
    injection e with e
    rwa [← e]
  · intro h; exact ⟨f, h, rfl⟩
def lpU (p : Str × Int) : U := .tup [.str p.1, .int p.2]
theorem layU_eq (es : List Ev) : layU es = .tup ((layM es).map lpU) := by
  unfold layU
  rw [puts_lay]
  unfold dU
  rw [List.map_map]
  rfl
theorem readerM_of {b : Bk} {seen : List (Str × Str)} {rule f : Str} {don rest : List Str} (h : don ++ rest = b.names) (hd : ∀ n ∈ don, ¬ (n ≠ rule ∧ (f, n) ∈ seen)) : readerM b seen rule f = rest.find? fun n => decide (n ≠ rule ∧ (f, n) ∈ seen) := by
  unfold readerM
  rw [← h, List.find?_append]
  have : don.find? (fun n => decide (n ≠ rule ∧ (f, n) ∈ seen)) = none := by
    rw [List.find?_eq_none]
    intro n hn
    simpa using hd n hn
  rw [this]
  rfl
theorem faultM_cons (b : Bk) (st : Mst) (rule : Str) (p : Str × Int) (l : List (Str × Int)) : faultM b st rule (p :: l) = if p.1 ∈ b.heads then some (.broken "source" p.1 rule "") else match kfind st.owners p.1 with
    | some o => some (.broken "twice" p.1 rule o)
    | none => match readerM b st.seen rule p.1 with
      | some n => some (.broken "late" p.1 rule n)
      | none => faultM b st rule l := rfl
theorem faults_ok {C : CE} {fn : Nat} (hnm : NamesF C fn) {nx bk ct : SU → Hm → Prop} {rt : QU} {M : Hm} {A : MA} {b : Bk} {wd : List Int} {st : Mst} {rule : Str} {lay : List (Str × Int)} (h : MkAt M A b wd st) (hl : b.rows.length < LIM)
    (hq : ∀ M', Sub M M' → rt (optO (faultM b st rule lay)) M') : wS C (B_Making_faults_of fn) ⟨nx, rt, bk, ct⟩ (startU 6 [.ref A.p, .str rule, .tup (lay.map lpU)]) M := by
  unfold B_Making_faults_of
  (repeat decreasing_trivial_pre_omega)
  refine forL_by (enc := lpU) (fun don rest σ M' => Sub M M' ∧ faultM b st rule lay = faultM b st rule rest ∧ ∃ u3 u4 u5, σ = [some (.ref A.p), some (.str rule), some (.tup (lay.map lpU)), u3, u4, u5]) lay ⟨Sub.refl _, rfl, _, _, _, rfl⟩ ?_ ?_
  · intro don x rest σ M' k e ⟨s1, e2, u3, u4, u5, e3⟩ hk
    subst e3
    have h' := h.sub s1
    have hp := h'.p
    have hw := h'.w
    have hs := h'.s
    unfold mkF at hp
    unfold lpU
    rw [faultM_cons] at e2
    (repeat decreasing_trivial_pre_omega)
    unfold encBk at hp ⊢
    (repeat decreasing_trivial_pre_omega)
    refine in_dtp (strs_all _) rfl ?_
    by_cases h1 : x.1 ∈ b.heads
    · rw [if_pos h1] at e2
      refine i_ift (decide_eq_true (mem_strs.mpr h1)) ?_
      (repeat decreasing_trivial_pre_omega)
      rw [e2] at hq
      exact hq _ s1
    rw [if_neg h1] at e2
    refine i_iff (decide_eq_false fun z => h1 (mem_strs.mp z)) ?_
    (repeat decreasing_trivial_pre_omega)
    refine in_dct hw rfl ?_
    rw [dU_find, Option.isSome_map]
    cases hk2 : kfind st.owners x.1 with
    | some o =>
      rw [hk2] at e2
      refine i_ift rfl ?_
      (repeat decreasing_trivial_pre_omega)
      refine x_dct hw rfl (by rw [dU_find, hk2]; rfl) ?_
      (repeat decreasing_trivial_pre_omega)
      rw [e2] at hq
      exact hq _ s1
    | none =>
      rw [hk2] at e2
      refine i_iff rfl ?_
      (repeat decreasing_trivial_pre_omega)
      have hp1 : M' A.p = some (.obj "Making" (mkF b wd A)) := h'.p
      refine hnm _ b _ hl fun M2 s2 => ?_
      (repeat decreasing_trivial_pre_omega)
      refine forL_by (enc := U.str) (fun don2 rest2 σ M3 => Sub M M3 ∧ (∀ n ∈ don2, ¬ (n ≠ rule ∧ (x.1, n) ∈ st.seen)) ∧ ∃ u5, σ = [some (.ref A.p), some (.str rule), some (.tup (lay.map lpU)), some (.str x.1), some (.int x.2), u5]) b.names ⟨s1.trans s2, by simp, _, rfl⟩ ?_ ?_
      · intro don2 nm rest2 σ M3 k2 e' ⟨s3, f2, v5, f3⟩ hk2'
        subst f3
        have h3 := h.sub s3
        have hp3 := h3.p
        have hs3 := h3.s
        by_cases hne : nm = rule
        · (repeat decreasing_trivial_pre_omega)
          refine hk2' _ _ trivial ⟨s3, fun n hn => ?_, _, rfl⟩
          rcases List.mem_append.mp hn with hn | hn
          · exact f2 n hn
          · rw [List.mem_singleton] at hn; subst hn; exact fun z => z.1 hne
        · (repeat decreasing_trivial_pre_omega)
          intro a ha
          refine d_get (um_old hs3 ha) rfl ?_
          rw [dU_find]
          cases hf : kfind A.sk x.1 with
          | none =>
            have hns : (x.1, nm) ∉ st.seen := fun z => by
              have := h.cov _ z
              rw [hf] at this
              cases this
            show cmpW .isin _ (.ref a) _ _
            refine c_in ?_
            refine in_dct um_same rfl ?_
            refine i_iff rfl ?_
            (repeat decreasing_trivial_pre_omega)
            refine hk2' _ _ trivial ⟨s3.trans (sub_um (Sub.refl _) ha), fun n hn => ?_, _, rfl⟩
            rcases List.mem_append.mp hn with hn | hn
            · exact f2 n hn
            · rw [List.mem_singleton] at hn; subst hn; exact fun z => hns z.2
          | some q =>
            obtain ⟨ks, g1, g2, g3⟩ := h3.inn _ (kfind_mem hf)
            show cmpW .isin _ (.ref q) _ _
            refine c_in ?_
            refine in_dct (um_old g1 ha) rfl ?_
            rw [dU_find, Option.isSome_map, g2]
            by_cases hin : (x.1, nm) ∈ st.seen
            · refine i_ift (decide_eq_true hin) ?_
              (repeat decreasing_trivial_pre_omega)
              have hr : readerM b st.seen rule x.1 = some nm := by
                rw [readerM_of e' f2, List.find?_cons_of_pos (by simpa using ⟨hne, hin⟩)]
              rw [hr] at e2
              rw [e2] at hq
              exact hq _ (s3.trans (sub_um (Sub.refl _) ha))
            · refine i_iff (decide_eq_false hin) ?_
              (repeat decreasing_trivial_pre_omega)
              refine hk2' _ _ trivial ⟨s3.trans (sub_um (Sub.refl _) ha), fun n hn => ?_, _, rfl⟩
              rcases List.mem_append.mp hn with hn | hn
              · exact f2 n hn
              · rw [List.mem_singleton] at hn; subst hn; exact fun z => hin z.2
      · intro σ M3 ⟨s3, f2, v5, f3⟩
        subst f3
        have hr : readerM b st.seen rule x.1 = none := by
          rw [readerM_of (rest := []) (by simp) f2]; rfl
        rw [hr] at e2
        (repeat decreasing_trivial_pre_omega)
        exact hk _ _ trivial ⟨s3, e2, _, _, _, rfl⟩
  · intro σ M' ⟨s1, e2, u3, u4, u5, e3⟩
    subst e3
    (repeat decreasing_trivial_pre_omega)
    rw [e2] at hq
    exact hq _ s1
def FaultsF (C : CE) (g : Nat) : Prop := ∀ (M : Hm) (A : MA) (b : Bk) (wd : List Int) (st : Mst) (rule : Str) (lay : List (Str × Int)) (Q : QU), MkAt M A b wd st → b.rows.length < LIM → (∀ M', Sub M M' → Q (optO (faultM b st rule lay)) M') → C g [.ref A.p, .str rule, .tup (lay.map lpU)] M Q
end Pl

set_option maxHeartbeats 400000
/-! the program's makings: what holds on the way; finish, frames -/
namespace Pl
open PySem L2
/-! ### well-formed -/
def BBP (b : Bk) (j : Nat) (x : Bd) : Prop := BP (b.n + 1) (fun f c => okS f = true ∧ 0 ≤ c ∧ c < b.n) (fun r => r ∈ b.names) (fun f => okS f = true) j x
structure BkOk (b : Bk) : Prop where
  n0 : 0 < b.n
  heads : ∀ h ∈ b.heads, okS h = true
  rows : ∀ r ∈ b.rows, okS r.1 = true ∧ ∃ j, BBP b j r.2
  hl : b.heads.length ≤ 100
  rl : b.rows.length ≤ 100
structure WdOk (b : Bk) (wd : List Int) : Prop where
  len : wd.length = b.heads.length
  val : ∀ c ∈ wd, c = -2 ∨ (-1 ≤ c ∧ c < b.n)
structure FmOk (b : Bk) (f : Fm) : Prop where
  rule : okS f.rule = true
  at_ : ∃ j, BBP b j f.at_
  evs : ∀ e ∈ f.evs, e.ok
  puts : ∀ fl c, Ev.put fl c ∈ f.evs → 0 ≤ c ∧ c < b.n
def evsum (stack : List Fm) : Nat := (stack.map fun f => f.evs.length).sum
structure StOk (b : Bk) (st : Mst) (stack : List Fm) : Prop where
  fms : ∀ f ∈ stack, FmOk b f
  cont : ∀ p ∈ st.cont, 0 ≤ p.2 ∧ p.2 < b.n
  conL : st.cont.length + evsum stack ≤ st.moves.length
  ownL : st.owners.length + evsum stack ≤ st.moves.length
  ordL : st.order.length ≤ st.moves.length
  donL : st.done.length ≤ st.moves.length
  seeL : st.seen.length ≤ st.moves.length
  done : ∀ p ∈ st.done, okS p.1 = true ∧ ∀ e ∈ p.2, e.ok
  ownS : ∀ p ∈ st.owners, okS p.1 = true ∧ okS p.2 = true
  ordS : ∀ r ∈ st.order, okS r = true ∧ (kfind st.done r).isSome = true
  movS : ∀ r ∈ st.moves, okS r = true
  agree : st.cont.map (·.1) = st.owners.map (·.1)
theorem evsum_snoc (l : List Fm) (f : Fm) : evsum (l ++ [f]) = evsum l + f.evs.length := by
  unfold evsum
  rw [List.map_append, List.sum_append]
  simp
theorem bodyOf_some {b : Bk} {r : Str} (h : r ∈ b.names) : ∃ bd, b.bodyOf r = some bd := by
  have : (kfind b.rows r).isSome = true := by rw [kfind_isSome]; exact decide_eq_true h
  exact Option.isSome_iff_exists.mp this
theorem bodyOf_ok2 {b : Bk} (hb : BkOk b) {r : Str} {bd : Bd} (h : b.bodyOf r = some bd) : okS r = true ∧ ∃ j, BBP b j bd := hb.rows _ (kfind_mem h)
theorem content_rng {b : Bk} {wd : List Int} {st : Mst} (hw : WdOk b wd) (hc : ∀ p ∈ st.cont, 0 ≤ p.2 ∧ p.2 < b.n) (f : Str) : (contentM b wd st f = -2 ∧ f ∈ b.heads) ∨ (-1 ≤ contentM b wd st f ∧ contentM b wd st f < b.n ∨ contentM b wd st f = -1) := by
  unfold contentM
  by_cases h : f ∈ b.heads
  · rw [if_pos h]
    have hi : b.heads.idxOf f < wd.length := by rw [hw.len]; exact List.idxOf_lt_length_iff.mpr h
    rw [List.getD_eq_getElem?_getD, List.getElem?_eq_getElem hi]
    rcases hw.val _ (List.getElem_mem hi) with h2 | h2
    · exact .inl ⟨h2, h⟩
    · exact .inr (.inl h2)
  · rw [if_neg h]
    cases hk : kfind st.cont f with
    | none => exact .inr (.inr rfl)
    | some v =>
      have := hc _ (kfind_mem hk)
      exact .inr (.inl ⟨by simp; omega, by simp; omega⟩)
theorem see_kid {b : Bk} {f : Str} {bs : List Bd} {j : Nat} (h : BBP b j (.see f bs)) {c : Int} (h0 : -1 ≤ c) (h1 : c < b.n) : ∃ k, BBP b k (bs.getD (c + 1).toNat .done) ∧ bs[(c + 1).toNat]? = some (bs.getD (c + 1).toNat .done) ∧ okS f = true ∧ bs.length = b.n + 1 := by
  cases h with
  | see g1 g2 g3 =>
    have hi : (c + 1).toNat < bs.length := by omega
    rw [List.getD_eq_getElem?_getD, List.getElem?_eq_getElem hi]
    exact ⟨_, g3 _ (List.getElem_mem hi), rfl, g1, g2⟩
theorem own_rng {b : Bk} {f : Fm} (h : FmOk b f) {fl : Str} {c : Int} (hk : kfind (layM f.evs) fl = some c) : 0 ≤ c ∧ c < b.n := h.puts _ _ (layM_mem (kfind_mem hk))
theorem down_len (l : List (Str × Int)) : ∀ (x : List (Str × Int)), (l.foldl (fun l p => kput l p.1 p.2) x).length ≤ x.length + l.length := by
  induction l with
  | nil => intro x; simp
  | cons p l ih =>
    intro x
    rw [List.foldl_cons]
    have h1 := ih (kput x p.1 p.2)
    have h2 := kput_len x p.1 p.2
    simp
    omega
theorem downO_len (r : Str) (l : List (Str × Int)) : ∀ (x : List (Str × Str)), (l.foldl (fun l p => kput l p.1 r) x).length ≤ x.length + l.length := by
  induction l with
  | nil => intro x; simp
  | cons p l ih =>
    intro x
    rw [List.foldl_cons]
    have h1 := ih (kput x p.1 r)
    have h2 := kput_len x p.1 r
    simp
    omega
theorem down_mem {P : Str × Int → Prop} (l : List (Str × Int)) (hl : ∀ p ∈ l, P p) : ∀ (x : List (Str × Int)), (∀ p ∈ x, P p) → ∀ p ∈ l.foldl (fun l p => kput l p.1 p.2) x, P p := by
  induction l with
  | nil => intro x h; exact h
  | cons p l ih =>
    intro x h
    rw [List.foldl_cons]
    refine ih (fun q hq => hl q (List.mem_cons_of_mem _ hq)) _ fun q hq => ?_
    rcases kput_mem hq with hq | hq
    · exact h q hq
    · rw [hq]; exact hl p List.mem_cons_self
theorem downO_mem {P : Str × Str → Prop} (r : Str) (l : List (Str × Int)) (hl : ∀ p ∈ l, P (p.1, r)) : ∀ (x : List (Str × Str)), (∀ p ∈ x, P p) → ∀ p ∈ l.foldl (fun l p => kput l p.1 r) x, P p := by
  induction l with
  | nil => intro x h; exact h
  | cons p l ih =>
    intro x h
    rw [List.foldl_cons]
    refine ih (fun q hq => hl q (List.mem_cons_of_mem _ hq)) _ fun q hq => ?_
    rcases kput_mem hq with hq | hq
    · exact h q hq
    · rw [hq]; exact hl p List.mem_cons_self
theorem down_agree (r : Str) (l : List (Str × Int)) : ∀ (x : List (Str × Int)) (y : List (Str × Str)), x.map (·.1) = y.map (·.1) → (l.foldl (fun l p => kput l p.1 p.2) x).map (·.1) = (l.foldl (fun l p => kput l p.1 r) y).map (·.1) := by
  induction l with
  | nil => intro x y h; exact h
  | cons p l ih =>
    intro x y h
    rw [List.foldl_cons, List.foldl_cons]
    refine ih _ _ ?_
    rw [kput_keys, kput_keys, h]
theorem sub_mem {init : List Fm} {f : Fm} {P : Fm → Prop} (h : ∀ g ∈ init ++ [f], P g) {g : Fm} (hg : P g) : ∀ x ∈ init ++ [g], P x := fun x hx => by
  rcases List.mem_append.mp hx with hx | hx
  · exact h x (List.mem_append_left _ hx)
  · rw [List.mem_singleton] at hx; subst hx; exact hg
theorem ev_app {P : Ev → Prop} {l : List Ev} {e : Ev} (h : ∀ x ∈ l, P x) (he : P e) : ∀ x ∈ l ++ [e], P x := fun x hx => by
  rcases List.mem_append.mp hx with hx | hx
  · exact h x hx
  · rw [List.mem_singleton] at hx; subst hx; exact he
theorem mov_app {l : List Str} {r : Str} (h : ∀ x ∈ l, okS x = true) (hr : okS r = true) : ∀ x ∈ l ++ [r], okS x = true := fun x hx => by
  rcases List.mem_append.mp hx with hx | hx
  · exact h x hx
  · rw [List.mem_singleton] at hx; subst hx; exact hr
/-- one frame goes on -/
theorem StOk.adv {b : Bk} {st st' : Mst} {init : List Fm} {f : Fm} (h : StOk b st (init ++ [f])) {k : Bd} {e : Ev} (hs : st' = mv st f.rule ∨ ∃ g, st' = sn (mv st f.rule) g f.rule) (hk : ∃ j, BBP b j k) (he : e.ok) (hp : ∀ fl c, e = .put fl c → 0 ≤ c ∧ c < b.n) :
    StOk b st' (init ++ [⟨f.rule, k, f.evs ++ [e]⟩]) := by
  have hf := h.fms f (by simp)
  have h1 := h.conL
  have h2 := h.ownL
  have h3 := h.ordL
  have h4 := h.donL
  have h5 := h.seeL
  rw [evsum_snoc] at h1 h2
  have fm : FmOk b ⟨f.rule, k, f.evs ++ [e]⟩ := ⟨hf.rule, hk, ev_app hf.evs he, fun fl c hm => by
    rcases List.mem_append.mp hm with hm | hm
    · exact hf.puts fl c hm
    · rw [List.mem_singleton] at hm; exact hp fl c hm.symm⟩
  rcases hs with rfl | ⟨g, rfl⟩
  · refine ⟨sub_mem h.fms fm, h.cont, ?_, ?_, ?_, ?_, ?_, h.done, h.ownS, h.ordS, mov_app h.movS hf.rule, h.agree⟩ <;> simp only [evsum_snoc, mv, List.length_append, List.length_singleton] <;> omega
  · refine ⟨sub_mem h.fms fm, h.cont, ?_, ?_, ?_, ?_, ?_, h.done, h.ownS, h.ordS, mov_app h.movS hf.rule, h.agree⟩ <;> simp only [evsum_snoc, mv, sn, List.length_append, List.length_singleton] <;> omega
theorem StOk.step {b : Bk} (hb : BkOk b) {wd : List Int} (hw : WdOk b wd) {st st' : Mst} {init s' : List Fm} {f : Fm} (h : StOk b st (init ++ [f])) (e : stepM b wd st init f = .inl (st', s')) : StOk b st' s' := by
  have hf := h.fms f (by simp)
  obtain ⟨j, hj⟩ := hf.at_
  have h1 := h.conL
  have h2 := h.ownL
  have h3 := h.ordL
  have h4 := h.donL
  have h5 := h.seeL
  rw [evsum_snoc] at h1 h2
  unfold stepM at e
  split at e
  · split at e
    · cases e
    · cases e
      have hlay := layM_len f.evs
      have d1 := down_len (layM f.evs) st.cont
      have d2 := downO_len f.rule (layM f.evs) st.owners
      have d3 := kput_len st.done f.rule f.evs
      refine ⟨fun g hg => h.fms g (List.mem_append_left _ hg), ?_, ?_, ?_, ?_, ?_, ?_, ?_, ?_, ?_, mov_app h.movS hf.rule, ?_⟩
      · exact down_mem _ (fun p hp => hf.puts _ _ (layM_mem hp)) _ h.cont
      · simp only [finM, layDown, mv, List.length_append, List.length_singleton]; omega
      · simp only [finM, layDown, mv, List.length_append, List.length_singleton]; omega
      · simp only [finM, layDown, mv, List.length_append, List.length_singleton]; omega
      · simp only [finM, layDown, mv, List.length_append, List.length_singleton]; omega
      · simp only [finM, layDown, mv, List.length_append, List.length_singleton]; omega
      · intro p hp
        rcases kput_mem hp with hp | hp
        · exact h.done p hp
        · rw [hp]; exact ⟨hf.rule, hf.evs⟩
      · exact downO_mem (P := fun p => okS p.1 = true ∧ okS p.2 = true) f.rule _ (fun p hp => ⟨hf.evs _ (layM_mem hp), hf.rule⟩) _ h.ownS
      · intro r hr
        rw [show (finM (mv st f.rule) f.rule f.evs).done = kput st.done f.rule f.evs from rfl, kput_some]
        rcases List.mem_append.mp hr with hr | hr
        · exact ⟨(h.ordS r hr).1, decide_eq_true (.inr (h.ordS r hr).2)⟩
        · rw [List.mem_singleton] at hr; subst hr; exact ⟨hf.rule, decide_eq_true (.inl rfl)⟩
      · exact down_agree _ _ _ _ h.agree
  · rename_i r k ha
    rw [ha] at hj
    cases hj with
    | ask g1 g2 =>
      obtain ⟨bd, hbd⟩ := bodyOf_some g1
      obtain ⟨o1, o2⟩ := bodyOf_ok2 hb hbd
      split at e
      · cases e
        exact h.adv (.inl rfl) ⟨_, g2⟩ o1 (fun _ _ z => by cases z)
      · split at e
        · cases e
        · rw [hbd] at e
          cases e
          refine ⟨fun g hg => ?_, h.cont, ?_, ?_, ?_, ?_, ?_, h.done, h.ownS, h.ordS, mov_app h.movS o1, h.agree⟩
          · rcases List.mem_append.mp hg with hg | hg
            · exact h.fms g hg
            · rw [List.mem_singleton] at hg; subst hg; exact ⟨o1, o2, (by simp), (by simp)⟩
          · rw [evsum_snoc, evsum_snoc]; simp only [mv, List.length_append, List.length_singleton, List.length_nil]; omega
          · rw [evsum_snoc, evsum_snoc]; simp only [mv, List.length_append, List.length_singleton, List.length_nil]; omega
          · simp only [mv, List.length_append, List.length_singleton]; omega
          · simp only [mv, List.length_append, List.length_singleton]; omega
          · simp only [mv, List.length_append, List.length_singleton]; omega
  · rename_i fl c k ha
    rw [ha] at hj
    cases hj with
    | put g1 g2 =>
      cases e
      exact h.adv (.inl rfl) ⟨_, g2⟩ g1.1 (fun _ _ z => by cases z; exact g1.2)
  · rename_i fl bs ha
    rw [ha] at hj
    split at e
    · rename_i c hk
      cases e
      obtain ⟨r1, r2⟩ := own_rng hf hk
      obtain ⟨k, q1, q2, q3, q4⟩ := see_kid hj (c := c) (by omega) r2
      exact h.adv (.inl rfl) ⟨k, q1⟩ q3 (fun _ _ z => by cases z)
    · split at e
      · cases e
      · rename_i hne
        cases e
        have hr : -1 ≤ contentM b wd st fl ∧ contentM b wd st fl < b.n := by
          rcases content_rng hw h.cont fl with h7 | h7 | h7
          · exact absurd h7.1 hne
          · exact h7
          · have := hb.n0; omega
        obtain ⟨k, q1, q2, q3, q4⟩ := see_kid hj hr.1 hr.2
        exact h.adv (.inr ⟨fl, rfl⟩) ⟨k, q1⟩ q3 (fun _ _ z => by cases z)
end Pl

set_option maxHeartbeats 400000
/-! the program's makings: finish, frames, a step -/
namespace Pl
open PySem L2
theorem Sub.keep {A : MA} {M M' : Hm} (s : Sub M M') : Keep A A M M' := ⟨fun a x _ e => s a x e, fun _ h => .inl h⟩
theorem layDown_snoc (st : Mst) (r : Str) (l : List (Str × Int)) (x : Str × Int) : layDown st r (l ++ [x]) = { layDown st r l with owners := kput (layDown st r l).owners x.1 r, cont := kput (layDown st r l).cont x.1 x.2 } := by
  unfold layDown
  simp only [List.foldl_append, List.foldl_cons, List.foldl_nil]
theorem laydown_ok {C : CE} {nx bk ct : SU → Hm → Prop} {rt : QU} {M : Hm} {A : MA} {b : Bk} {wd : List Int} {st : Mst} {rule : Str} {lay : List (Str × Int)} (h : MkAt M A b wd st) (h1 : st.owners.length + lay.length < LIM) (h2 : st.cont.length + lay.length < LIM)
    (hq : ∀ σ M', MkAt M' A b wd (layDown st rule lay) → Keep A A M M' → nx σ M') : wS C B_Making_lay_down ⟨nx, rt, bk, ct⟩ (startU 5 [.ref A.p, .str rule, .tup (lay.map lpU)]) M := by
  unfold B_Making_lay_down
  (repeat decreasing_trivial_pre_omega)
  refine forL_by (enc := lpU) (fun don rest σ M' => MkAt M' A b wd (layDown st rule don) ∧ Keep A A M M' ∧ ∃ u3 u4, σ = [some (.ref A.p), some (.str rule), some (.tup (lay.map lpU)), u3, u4]) lay ⟨h, Keep.refl _ _, _, _, rfl⟩ ?_ ?_
  · intro don x rest σ M' k e ⟨e1, e2, u3, u4, e3⟩ hk
    subst e3
    have n := MA.ne h.nd
    have hp := e1.p
    have hw := e1.w
    have hc := e1.c
    unfold mkF at hp
    unfold lpU
    have l1 := downO_len rule don st.owners
    have l2 := down_len don st.cont
    have l3 : don.length + rest.length + 1 = lay.length := by rw [← e]; simp; omega
    (repeat decreasing_trivial_pre_omega)
    refine st_dct (x := .str x.1) hw rfl (by rw [dU_len]; simp only [layDown]; omega) ?_
    rw [dU_put]
    have e4 := e1.setw x.1 rule
    have hp4 := e4.p
    have hc4 := e4.c
    unfold mkF at hp4
    (repeat decreasing_trivial_pre_omega)
    refine st_dct (x := .str x.1) hc4 rfl (by rw [dU_len]; simp only [layDown]; omega) ?_
    rw [dU_put]
    have e5 := e4.setc x.1 x.2
    (repeat decreasing_trivial_pre_omega)
    refine hk _ _ trivial ⟨by rw [layDown_snoc]; exact e5, (e2.trans (keep_um (by simp [MA.all, MA.fix]))).trans (keep_um (by simp [MA.all, MA.fix])), _, _, rfl⟩
  · intro σ M' ⟨e1, e2, u3, u4, e3⟩
    (repeat decreasing_trivial_pre_omega)
    exact hq _ _ e1 e2
def DownF (C : CE) (g : Nat) : Prop := ∀ (M : Hm) (A : MA) (b : Bk) (wd : List Int) (st : Mst) (rule : Str) (lay : List (Str × Int)) (Q : QU), MkAt M A b wd st → st.owners.length + lay.length < LIM → st.cont.length + lay.length < LIM →
  (∀ M', MkAt M' A b wd (layDown st rule lay) → Keep A A M M' → Q .non M') → C g [.ref A.p, .str rule, .tup (lay.map lpU)] M Q
def LayF (C : CE) (g : Nat) : Prop := ∀ (M : Hm) (es : List Ev) (Q : QU), es.length < LIM → (∀ M', Sub M M' → Q (layU es) M') → C g [.tup (es.map encE)] M Q
theorem finish_ok {C : CE} {fd ff fl : Nat} (hd : DownF C fd) (hf : FaultsF C ff) (hl : LayF C fl) {nx bk ct : SU → Hm → Prop} {rt : QU} {M : Hm} {A : MA} {b : Bk} {wd : List Int} {st : Mst} {rule : Str} {evs : List Ev} (h : MkAt M A b wd st) (hb : b.rows.length < LIM)
    (h0 : evs.length < LIM) (h1 : st.owners.length + evs.length < LIM) (h2 : st.cont.length + evs.length < LIM) (h3 : st.done.length < LIM) (h4 : st.order.length < LIM)
    (hq1 : ∀ M' o, faultM b st rule (layM evs) = some o → MkAt M' A b wd st → Keep A A M M' → rt (encO o) M')
    (hq2 : ∀ M', faultM b st rule (layM evs) = none → MkAt M' A b wd (finM st rule evs) → Keep A A M M' → rt .non M') :
    wS C (B_Making_finish fd ff fl) ⟨nx, rt, bk, ct⟩ (startU 5 [.ref A.p, .str rule, .tup (evs.map encE)]) M := by
  have hlay := layM_len evs
  unfold B_Making_finish
  (repeat decreasing_trivial_pre_omega)
  refine hl _ _ _ h0 fun M1 s1 => ?_
  have e1 := h.sub s1
  have hp1 := e1.p
  rw [layU_eq]
  (repeat decreasing_trivial_pre_omega)
  refine hf _ _ _ _ _ _ _ _ e1 hb fun M2 s2 => ?_
  have e2 := e1.sub s2
  have hp2 := e2.p
  have k2 : Keep A A M M2 := (s1.trans s2).keep
  cases hfl : faultM b st rule (layM evs) with
  | some o =>
    have hne : optO (some o) ≠ .non := by cases o <;> simp [optO, encO]
    (repeat decreasing_trivial_pre_omega)
    exact hq1 _ _ hfl e2 k2
  | none =>
    show _
    (repeat decreasing_trivial_pre_omega)
    refine hd _ _ _ _ _ _ _ _ e2 (by omega) (by omega) fun M3 e3 k3 => ?_
    have hp3 := e3.p
    have hd3 := e3.d
    unfold mkF at hp3
    (repeat decreasing_trivial_pre_omega)
    refine st_dct (x := .str rule) hd3 rfl (by rw [dU_len]; simp only [layDown]; omega) ?_
    rw [show U.tup (evs.map encE) = trU evs from rfl, dU_put]
    have e4 := e3.setd rule evs
    have hp4 := e4.p
    have hr4 := e4.r
    unfold mkF at hp4
    (repeat decreasing_trivial_pre_omega)
    refine m_app hr4 (by rw [List.length_map]; simp only [layDown]; omega) ?_
    have e5 := e4.setr rule
    have e6 : ∀ l : List Str, l.map U.str ++ [U.str rule] = (l ++ [rule]).map U.str := fun l => by simp
    rw [e6]
    (repeat decreasing_trivial_pre_omega)
    refine hq2 _ hfl e5 (((k2.trans k3).trans (keep_um (by simp [MA.all, MA.fix]))).trans (keep_um (by simp [MA.all, MA.fix])))
def FinF (C : CE) (g : Nat) : Prop := ∀ (M : Hm) (A : MA) (b : Bk) (wd : List Int) (st : Mst) (rule : Str) (evs : List Ev) (Q : QU), MkAt M A b wd st → b.rows.length < LIM →
  evs.length < LIM → st.owners.length + evs.length < LIM → st.cont.length + evs.length < LIM → st.done.length < LIM → st.order.length < LIM →
  (∀ M' o, faultM b st rule (layM evs) = some o → MkAt M' A b wd st → Keep A A M M' → Q (encO o) M') →
  (∀ M', faultM b st rule (layM evs) = none → MkAt M' A b wd (finM st rule evs) → Keep A A M M' → Q .non M') → C g [.ref A.p, .str rule, .tup (evs.map encE)] M Q
/-! ### frames -/
structure FA where
  q : Addr
  e : Addr
  o : Addr
def FA.all (z : FA) : List Addr := [z.q, z.e, z.o]
def frF (f : Fm) (z : FA) : List (Str × U) := [("rule", .str f.rule), ("at", encB f.at_), ("events", .ref z.e), ("own", .ref z.o)]
structure FrAt (M : Hm) (z : FA) (f : Fm) : Prop where
  nd : z.all.Nodup
  q : M z.q = some (.obj "Frame" (frF f z))
  e : M z.e = some (.lst (f.evs.map encE))
  o : M z.o = some (.dct false false (dU U.int (layM f.evs)))
/-- all that is neither A's nor among L stays -/
structure KeepZ (L : List Addr) (A A' : MA) (M M' : Hm) : Prop where
  old : ∀ a x, a ∉ A.all → a ∉ L → M a = some x → M' a = some x
  new : ∀ a, a ∈ A'.all → a ∈ A.all ∨ M a = none
theorem FrAt.keep {M M' : Hm} {A A' : MA} {L : List Addr} {z : FA} {f : Fm} (h : FrAt M z f) (k : KeepZ L A A' M M') (ha : ∀ a ∈ z.all, a ∉ A.all ∧ a ∉ L) : FrAt M' z f := by
  have h1 := ha z.q (by simp [FA.all])
  have h2 := ha z.e (by simp [FA.all])
  have h3 := ha z.o (by simp [FA.all])
  exact ⟨h.nd, k.old _ _ h1.1 h1.2 h.q, k.old _ _ h2.1 h2.2 h.e, k.old _ _ h3.1 h3.2 h.o⟩
theorem FrAt.ne {M : Hm} {z : FA} {f : Fm} (h : FrAt M z f) : z.q ≠ z.e ∧ z.q ≠ z.o ∧ z.e ≠ z.o := by
  have := h.nd
  unfold FA.all at this
  simp only [List.nodup_cons, List.mem_cons, List.not_mem_nil, or_false, not_or] at this
  exact ⟨this.1.1, this.1.2, this.2.1⟩
theorem FrAt.has {M : Hm} {z : FA} {f : Fm} (h : FrAt M z f) {a : Addr} (ha : a ∈ z.all) : ∃ x, M a = some x := by
  unfold FA.all at ha
  simp only [List.mem_cons, List.not_mem_nil, or_false] at ha
  rcases ha with rfl | rfl | rfl
  · exact ⟨_, h.q⟩
  · exact ⟨_, h.e⟩
  · exact ⟨_, h.o⟩
theorem Keep.z {A A' : MA} {M M' : Hm} (k : Keep A A' M M') (L : List Addr) : KeepZ L A A' M M' := ⟨fun a x h _ e => k.old a x h e, k.new⟩
theorem KeepZ.upd {L : List Addr} {A A' : MA} {M M' : Hm} (k : KeepZ L A A' M M') {a : Addr} {o : MO} (ha : a ∈ L) : KeepZ L A A' M (um M' a o) :=
  ⟨fun b x h1 h2 e => (um_ne fun z => h2 (by rw [z]; exact ha)).trans (k.old b x h1 h2 e), k.new⟩
theorem frame_init {C : CE} {nx bk ct : SU → Hm → Prop} {rt : QU} {M : Hm} {q : Addr} {r : Str} {bd : Bd} (hm : M q = none)
    (hq : ∀ σ z M', z.q = q → Sub M M' → FrAt M' z ⟨r, bd, []⟩ → (∀ a ∈ z.all, M a = none) → nx σ M') : wS C B_Frame_init ⟨nx, rt, bk, ct⟩ (startU 3 [.ref q, .str r, encB bd]) (um M q (.obj "Frame" [])) := by
  have h0 : um M q (.obj "Frame" []) q = some (.obj "Frame" []) := um_same
  unfold B_Frame_init
  (repeat decreasing_trivial_pre_omega)
  rw [um_um, show fput "rule" (U.str r) [] = [(("rule" : Str), U.str r)] from rfl]
  (repeat decreasing_trivial_pre_omega)
  rw [um_um, show fput "at" (encB bd) [(("rule" : Str), U.str r)] = [(("rule" : Str), U.str r), ("at", encB bd)] from rfl]
  (repeat decreasing_trivial_pre_omega)
  intro e he
  have ne := um_noneN he
  (repeat decreasing_trivial_pre_omega)
  rw [um_comm ne, um_um, show fput "events" (U.ref e) [(("rule" : Str), U.str r), ("at", encB bd)] = [(("rule" : Str), U.str r), ("at", encB bd), ("events", .ref e)] from rfl]
  (repeat decreasing_trivial_pre_omega)
  intro o ho
  have he2 := um_none he
  have ho1 := um_noneN ho
  have ho2 := um_none ho
  have ho3 := um_noneN ho2
  have ho4 := um_none ho2
  (repeat decreasing_trivial_pre_omega)
  refine hq _ ⟨q, e, o⟩ _ rfl ?_ ⟨by simp [FA.all, ne.symm, ho1.symm, ho3.symm], ?_, ?_, ?_⟩ ?_
  · intro a x h
    have z1 := ne_of_old h hm
    have z2 := ne_of_old h he2
    have z3 := ne_of_old h ho4
    repeat refine um_oth (by assumption) ?_
    exact h
  · show _ = some (MO.obj "Frame" [(("rule" : Str), U.str r), ("at", encB bd), ("events", .ref e), ("own", .ref o)])
    first | exact um_same | (refine um_oth (by first | assumption | exact Ne.symm (by assumption)) ?_; exact um_same)
  · show _ = some (MO.lst ([] : List U))
    show um _ _ _ e = _
    repeat (first | exact um_same | refine um_oth (by first | assumption | exact Ne.symm (by assumption)) ?_)
  · show _ = some (MO.dct false false ([] : List (U × U)))
    show um _ _ _ o = _
    repeat (first | exact um_same | refine um_oth (by first | assumption | exact Ne.symm (by assumption)) ?_)
  · intro a ha
    simp only [FA.all, List.mem_cons, List.not_mem_nil, or_false] at ha
    rcases ha with rfl | rfl | rfl
    · exact hm
    · exact he2
    · exact ho4
end Pl

set_option maxHeartbeats 400000
/-! the program's makings: begin, a step -/
namespace Pl
open PySem L2
def InitFr (C : CE) (g : Nat) : Prop := ∀ (M : Hm) (q : Addr) (r : Str) (bd : Bd) (Q : QU), M q = none → (∀ z M', z.q = q → Sub M M' → FrAt M' z ⟨r, bd, []⟩ → (∀ a ∈ z.all, M a = none) → Q .non M') → C g [.ref q, .str r, encB bd] (um M q (.obj "Frame" [])) Q
theorem begin_ok2 {C : CE} {fi fb : Nat} (hi : InitFr C fi) (hbf : BodyF C fb) {nx bk ct : SU → Hm → Prop} {rt : QU} {M : Hm} {A : MA} {b : Bk} {wd : List Int} {st : Mst} {r : Str} {bd : Bd} (h : MkAt M A b wd st) (hb : b.bodyOf r = some bd) (hl : st.moves.length < LIM)
    (hq : ∀ z M', MkAt M' A b wd (mv st r) → FrAt M' z ⟨r, bd, []⟩ → (∀ a ∈ z.all, M a = none) → Keep A A M M' → rt (.ref z.q) M') : wS C (B_begin fi fb) ⟨nx, rt, bk, ct⟩ (startU 2 [.ref A.p, .str r]) M := by
  have hp := h.p
  have hm := h.m
  unfold mkF at hp
  unfold B_begin
  (repeat decreasing_trivial_pre_omega)
  refine m_app hm (by rw [List.length_map]; exact hl) ?_
  have e1 := h.setm r
  have e6 : st.moves.map U.str ++ [U.str r] = (st.moves ++ [r]).map U.str := by simp
  rw [e6]
  have hp1 := e1.p
  unfold mkF at hp1
  (repeat decreasing_trivial_pre_omega)
  refine hbf _ b _ _ _ hb ?_
  (repeat decreasing_trivial_pre_omega)
  intro q hq0
  refine hi _ _ _ _ _ hq0 fun z M' hz s hf fr => ?_
  refine ⟨rfl, ?_⟩
  subst hz
  exact hq z M' (e1.sub s) hf (fun a ha => um_none (fr a ha)) ((keep_um (by simp [MA.all, MA.fix])).trans s.keep)
def BegF (C : CE) (g : Nat) : Prop := ∀ (M : Hm) (A : MA) (b : Bk) (wd : List Int) (st : Mst) (r : Str) (bd : Bd) (Q : QU), MkAt M A b wd st → b.bodyOf r = some bd → st.moves.length < LIM →
  (∀ z M', MkAt M' A b wd (mv st r) → FrAt M' z ⟨r, bd, []⟩ → (∀ a ∈ z.all, M a = none) → Keep A A M M' → Q (.ref z.q) M') → C g [.ref A.p, .str r] M Q
def actM (b : Bk) (wd : List Int) (st : Mst) (f : Fm) : Mst × Option Fm := match f.at_ with
  | .put fl c k => (mv st f.rule, some ⟨f.rule, k, f.evs ++ [.put fl c]⟩)
  | .see fl bs => (match kfind (layM f.evs) fl with
    | some c => (mv st f.rule, some ⟨f.rule, bs.getD (c + 1).toNat .done, f.evs ++ [.see fl c]⟩)
    | none => if contentM b wd st fl = -2 then (sn (mv st f.rule) fl f.rule, none)
      else (sn (mv st f.rule) fl f.rule, some ⟨f.rule, bs.getD (contentM b wd st fl + 1).toNat .done, f.evs ++ [.see fl (contentM b wd st fl)]⟩))
  | _ => (st, none)
theorem notin {A : MA} {z : FA} (h : ∀ a ∈ z.all, a ∉ A.all) : ∀ x ∈ A.all, z.q ≠ x ∧ z.e ≠ x ∧ z.o ≠ x := fun x hx =>
  ⟨fun e => h z.q (by simp [FA.all]) (e ▸ hx), fun e => h z.e (by simp [FA.all]) (e ▸ hx), fun e => h z.o (by simp [FA.all]) (e ▸ hx)⟩
theorem FrAt.fin {M : Hm} {z : FA} {f : Fm} {k : Bd} {e : Ev} {o : MO} {l : MO} {d : MO} (n : z.q ≠ z.e ∧ z.q ≠ z.o ∧ z.e ≠ z.o) (hnd : z.all.Nodup) (ho : M z.o = some (.dct false false (dU U.int (layM (f.evs ++ [e]))))) (he : M z.e = some (.lst ((f.evs ++ [e]).map encE))) (hq : M z.q = some (.obj "Frame" (frF ⟨f.rule, k, f.evs ++ [e]⟩ z))) : FrAt M z ⟨f.rule, k, f.evs ++ [e]⟩ := ⟨hnd, hq, he, ho⟩
theorem fput_at (f : Fm) (z : FA) (k : Bd) (es : List Ev) : fput "at" (encB k) (frF f z) = frF ⟨f.rule, k, es⟩ z := rfl
theorem step_put {C : CE} {fl : Nat} {nx bk ct : SU → Hm → Prop} {rt : QU} {M : Hm} {A : MA} {z : FA} {b : Bk} {wd : List Int} {st : Mst} {f : Fm} {fi : Str} {c : Int} {k : Bd} (h : MkAt M A b wd st) (hf : FrAt M z f) (hz : ∀ a ∈ z.all, a ∉ A.all) (ha : f.at_ = .put fi c k) (hl : st.moves.length < LIM) (hl2 : f.evs.length < LIM)
    (hq : ∀ M', MkAt M' A b wd (mv st f.rule) → FrAt M' z ⟨f.rule, k, f.evs ++ [.put fi c]⟩ → KeepZ z.all A A M M' → rt (.int 0) M') : wS C (B_step_frame fl) ⟨nx, rt, bk, ct⟩ (startU 4 [.ref A.p, .ref z.q]) M := by
  have hp := h.p
  have hm := h.m
  have n := MA.ne h.nd
  have npm := n.pm
  obtain ⟨n1, n2, n3⟩ := hf.ne
  obtain ⟨m1, m2, m3⟩ := notin hz A.m (by simp [MA.all, MA.fix])
  obtain ⟨p1, p2, p3⟩ := notin hz A.p (by simp [MA.all, MA.fix])
  have hfq := hf.q
  have hfe := hf.e
  have hfo := hf.o
  unfold mkF at hp
  unfold frF at hfq
  rw [ha] at hfq
  unfold encB at hfq
  unfold B_step_frame
  (repeat decreasing_trivial_pre_omega)
  refine m_app hm (by rw [List.length_map]; exact hl) ?_
  have e1 := h.setm f.rule
  have e6 : st.moves.map U.str ++ [U.str f.rule] = (st.moves ++ [f.rule]).map U.str := by simp
  rw [e6]
  (repeat decreasing_trivial_pre_omega)
  refine st_dct (x := .str fi) (um_oth m3 hfo) rfl (by rw [dU_len]; have := layM_len f.evs; omega) ?_
  rw [dU_put]
  (repeat decreasing_trivial_pre_omega)
  refine m_app (um_oth n3 (um_oth m2 hfe)) (by rw [List.length_map]; exact hl2) ?_
  (repeat decreasing_trivial_pre_omega)
  rw [show fput "at" (encB k) [(("rule" : Str), U.str f.rule), ("at", U.tup [U.str "put", U.str fi, U.int c, encB k]), ("events", U.ref z.e), ("own", U.ref z.o)] = frF ⟨f.rule, k, f.evs ++ [Ev.put fi c]⟩ z from rfl]
  have e7 : f.evs.map encE ++ [.tup [.str "put", .str fi, .int c]] = (f.evs ++ [Ev.put fi c]).map encE := by simp [encE]
  rw [e7]
  have hlay : kput (layM f.evs) fi c = layM (f.evs ++ [Ev.put fi c]) := by rw [layM_snoc]
  rw [hlay]
  have hqq : z.q ∈ z.all := by simp [FA.all]
  have hee : z.e ∈ z.all := by simp [FA.all]
  have hoo : z.o ∈ z.all := by simp [FA.all]
  refine hq _ (((e1.off (hz _ hoo)).off (hz _ hee)).off (hz _ hqq)) ⟨hf.nd, um_same, um_oth n1.symm um_same, um_oth n2.symm (um_oth n3.symm um_same)⟩ ((((keep_um (by simp [MA.all, MA.fix])).z z.all).upd hoo |>.upd hee).upd hqq)
/-- behind a look: the content noted, the frame goes on -/
theorem see_tail {C : CE} {nx bk ct : SU → Hm → Prop} {rt : QU} {M : Hm} {z : FA} {f : Fm} {fi : Str} {bs : List Bd} {c : Int} {u1 u2 : U} (hf : FrAt M z f) (ha : f.at_ = .see fi bs) (hl2 : f.evs.length < LIM) (h0 : -1 ≤ c) (hk : bs[(c + 1).toNat]? = some (bs.getD (c + 1).toNat .done))
    (hq : ∀ M', M' = um (um M z.e (.lst ((f.evs ++ [Ev.see fi c]).map encE))) z.q (.obj "Frame" (frF ⟨f.rule, bs.getD (c + 1).toNat .done, f.evs ++ [Ev.see fi c]⟩ z)) → rt (.int 0) M') :
    wS C (.seq (.ifs (.cmp .eq (.var 3) (.neg (.int 2))) (.seq (.ret (.neg (.int 2))) .skip) .skip) (.seq (.expr (.mth .append (.fld "events" (.var 1)) (.cons (.tup (.cons (.str "see") (.cons (.ix (.fld "at" (.var 1)) (.int 1)) (.cons (.var 3) .nil)))) .nil))) (.seq (.setF "Frame" "at" (.var 1) (.ix (.ix (.fld "at" (.var 1)) (.int 2)) (.bin .add (.var 3) (.int 1)))) (.seq (.ret (.int 0)) .skip)))) ⟨nx, rt, bk, ct⟩ [some u1, some (.ref z.q), some u2, some (.int c)] M := by
  obtain ⟨n1, n2, n3⟩ := hf.ne
  have hfq := hf.q
  have hfe := hf.e
  unfold frF at hfq
  rw [ha] at hfq
  unfold encB at hfq
  have hne : ¬ c = -2 := by omega
  (repeat decreasing_trivial_pre_omega)
  refine m_app hfe (by rw [List.length_map]; exact hl2) ?_
  have e7 : f.evs.map encE ++ [.tup [.str "see", .str fi, .int c]] = (f.evs ++ [Ev.see fi c]).map encE := by simp [encE]
  rw [e7]
  (repeat decreasing_trivial_pre_omega)
  refine x_tup (v := encB (bs.getD (c + 1).toNat .done)) ?_ ?_
  · rw [encBs_map]
    unfold atI ixN
    have hi := (List.getElem?_eq_some_iff.mp hk).1
    rw [if_pos (by omega), if_pos (by rw [List.length_map]; omega)]
    show (bs.map encB)[(c + 1).toNat]? = _
    rw [List.getElem?_map, hk]
    rfl
  (repeat decreasing_trivial_pre_omega)
  exact hq _ rfl
theorem step_see {C : CE} {fl : Nat} (hlk : LookF C fl) {nx bk ct : SU → Hm → Prop} {rt : QU} {M : Hm} {A : MA} {z : FA} {b : Bk} {wd : List Int} {st : Mst} {f : Fm} {fi : Str} {bs : List Bd} {j : Nat} (hwd : WdOk b wd) (hb : 0 < b.n) (h : MkAt M A b wd st) (hf : FrAt M z f) (hfo : FmOk b f) (hcr : ∀ p ∈ st.cont, 0 ≤ p.2 ∧ p.2 < b.n) (hz : ∀ a ∈ z.all, a ∉ A.all) (ha : f.at_ = .see fi bs) (hbp : BBP b j (.see fi bs)) (hl : st.moves.length < LIM) (hl2 : f.evs.length < LIM) (hl3 : st.seen.length < 90000)
    (hq1 : ∀ A' M' st' g, A'.p = A.p → actM b wd st f = (st', some g) → MkAt M' A' b wd st' → FrAt M' z g → KeepZ z.all A A' M M' → rt (.int 0) M')
    (hq2 : ∀ A' M' st', A'.p = A.p → actM b wd st f = (st', none) → MkAt M' A' b wd st' → FrAt M' z f → KeepZ z.all A A' M M' → rt (.int (-2)) M') : wS C (B_step_frame fl) ⟨nx, rt, bk, ct⟩ (startU 4 [.ref A.p, .ref z.q]) M := by
  have hp := h.p
  have hm := h.m
  have n := MA.ne h.nd
  have npm := n.pm
  obtain ⟨n1, n2, n3⟩ := hf.ne
  obtain ⟨m1, m2, m3⟩ := notin hz A.m (by simp [MA.all, MA.fix])
  have hfq := hf.q
  have hact : actM b wd st f = match kfind (layM f.evs) fi with
    | some c => (mv st f.rule, some ⟨f.rule, bs.getD (c + 1).toNat .done, f.evs ++ [.see fi c]⟩)
    | none => if contentM b wd st fi = -2 then (sn (mv st f.rule) fi f.rule, none)
      else (sn (mv st f.rule) fi f.rule, some ⟨f.rule, bs.getD (contentM b wd st fi + 1).toNat .done, f.evs ++ [.see fi (contentM b wd st fi)]⟩) := by unfold actM; rw [ha]
  unfold mkF at hp
  unfold frF at hfq
  rw [ha] at hfq
  unfold encB at hfq
  unfold B_step_frame
  (repeat decreasing_trivial_pre_omega)
  refine m_app hm (by rw [List.length_map]; exact hl) ?_
  have e1 := h.setm f.rule
  have e6 : st.moves.map U.str ++ [U.str f.rule] = (st.moves ++ [f.rule]).map U.str := by simp
  rw [e6]
  have hp1 := e1.p
  have k1 : Keep A A M (um M A.m (.lst ((st.moves ++ [f.rule]).map U.str))) := keep_um (by simp [MA.all, MA.fix])
  have hqq : z.q ∈ z.all := by simp [FA.all]
  have hee : z.e ∈ z.all := by simp [FA.all]
  have hoo : z.o ∈ z.all := by simp [FA.all]
  (repeat decreasing_trivial_pre_omega)
  refine hlk _ A b wd (mv st f.rule) _ _ _ f.evs _ e1 hwd.len (um_oth m3 hf.o) hl3 (fun c hk => ?_) (fun A' M' hAp hk hM hK => ?_)
  · obtain ⟨r1, r2⟩ := own_rng hfo hk
    obtain ⟨kk, q1, q2, q3, q4⟩ := see_kid hbp (c := c) (by omega) r2
    have hf1 : FrAt (um M A.m (.lst ((st.moves ++ [f.rule]).map U.str))) z f := ⟨hf.nd, um_oth m1 hf.q, um_oth m2 hf.e, um_oth m3 hf.o⟩
    rw [hk] at hact
    refine see_tail (u1 := .ref A.p) (u2 := .str "see") hf1 ha hl2 (by omega) q2 fun M' eM => ?_
    subst eM
    have n3' : z.o ≠ z.e := n3.symm
    refine hq1 A _ _ _ rfl hact ((e1.off (hz _ hee)).off (hz _ hqq)) ⟨hf.nd, um_same, um_oth n1.symm um_same, ?_⟩ (((k1.z z.all).upd hee).upd hqq)
    rw [layM_snoc]
    exact um_oth n2.symm (um_oth n3' hf1.o)
  · have hz1 : ∀ a ∈ z.all, a ∉ A.all := hz
    have hf1 : FrAt (um M A.m (.lst ((st.moves ++ [f.rule]).map U.str))) z f := ⟨hf.nd, um_oth m1 hf.q, um_oth m2 hf.e, um_oth m3 hf.o⟩
    have hf2 : FrAt M' z f := hf1.keep (hK.z []) fun a h => ⟨hz a h, by simp⟩
    have hz2 : ∀ a ∈ z.all, a ∉ A'.all := fun a h => by
      obtain ⟨x, e⟩ := hf1.has h
      exact hK.out (hz a h) e
    have hc : contentM b wd (mv st f.rule) fi = contentM b wd st fi := rfl
    rw [hk] at hact
    rw [hc]
    have kz : KeepZ z.all A A' M M' := (k1.trans hK).z z.all
    by_cases h2 : contentM b wd st fi = -2
    · simp only [if_pos h2] at hact
      (repeat decreasing_trivial_pre_omega)
      exact hq2 A' _ _ hAp hact hM hf2 kz
    · simp only [if_neg h2] at hact
      have hr : -1 ≤ contentM b wd st fi ∧ contentM b wd st fi < b.n := by
        rcases content_rng hwd hcr fi with h7 | h7 | h7
        · exact absurd h7.1 h2
        · exact h7
        · omega
      obtain ⟨kk, q1, q2, q3, q4⟩ := see_kid hbp hr.1 hr.2
      refine see_tail (u1 := .ref A.p) (u2 := .str "see") hf2 ha hl2 hr.1 q2 fun M' eM => ?_
      subst eM
      have n3' : z.o ≠ z.e := n3.symm
      refine hq1 A' _ _ _ hAp hact ((hM.off (hz2 _ hee)).off (hz2 _ hqq)) ⟨hf.nd, um_same, um_oth n1.symm um_same, ?_⟩ ((kz.upd hee).upd hqq)
      rw [layM_snoc]
      exact um_oth n2.symm (um_oth n3' hf2.o)
def StepF (C : CE) (g : Nat) : Prop := ∀ (M : Hm) (A : MA) (z : FA) (b : Bk) (wd : List Int) (st : Mst) (f : Fm) (Q : QU), WdOk b wd → 0 < b.n → MkAt M A b wd st → FrAt M z f → FmOk b f → (∀ p ∈ st.cont, 0 ≤ p.2 ∧ p.2 < b.n) → (∀ a ∈ z.all, a ∉ A.all) → f.at_ ≠ .done → (∀ r k, f.at_ ≠ .ask r k) →
  st.moves.length < LIM → f.evs.length < LIM → st.seen.length < 90000 →
  (∀ A' M' st' g, A'.p = A.p → actM b wd st f = (st', some g) → MkAt M' A' b wd st' → FrAt M' z g → KeepZ z.all A A' M M' → Q (.int 0) M') →
  (∀ A' M' st', A'.p = A.p → actM b wd st f = (st', none) → MkAt M' A' b wd st' → FrAt M' z f → KeepZ z.all A A' M M' → Q (.int (-2)) M') → C g [.ref A.p, .ref z.q] M Q
theorem step_ok {C : CE} {fl : Nat} (hlk : LookF C fl) {nx bk ct : SU → Hm → Prop} {rt : QU} {M : Hm} {A : MA} {z : FA} {b : Bk} {wd : List Int} {st : Mst} {f : Fm} (hwd : WdOk b wd) (hb : 0 < b.n) (h : MkAt M A b wd st) (hf : FrAt M z f) (hfo : FmOk b f) (hcr : ∀ p ∈ st.cont, 0 ≤ p.2 ∧ p.2 < b.n) (hz : ∀ a ∈ z.all, a ∉ A.all) (h1 : f.at_ ≠ .done) (h2 : ∀ r k, f.at_ ≠ .ask r k) (hl : st.moves.length < LIM) (hl2 : f.evs.length < LIM) (hl3 : st.seen.length < 90000)
    (hq1 : ∀ A' M' st' g, A'.p = A.p → actM b wd st f = (st', some g) → MkAt M' A' b wd st' → FrAt M' z g → KeepZ z.all A A' M M' → rt (.int 0) M')
    (hq2 : ∀ A' M' st', A'.p = A.p → actM b wd st f = (st', none) → MkAt M' A' b wd st' → FrAt M' z f → KeepZ z.all A A' M M' → rt (.int (-2)) M') : wS C (B_step_frame fl) ⟨nx, rt, bk, ct⟩ (startU 4 [.ref A.p, .ref z.q]) M := by
  obtain ⟨j, hj⟩ := hfo.at_
  cases ha : f.at_ with
  | done => exact absurd ha h1
  | ask r k => exact absurd ha (h2 r k)
  | put fi c k => exact step_put h hf hz ha hl hl2 fun M' e1 e2 e3 => hq1 A M' _ _ rfl (by unfold actM; rw [ha]) e1 e2 e3
  | see fi bs => exact step_see hlk hwd hb h hf hfo hcr hz ha (ha ▸ hj) hl hl2 hl3 hq1 hq2
end Pl

set_option maxHeartbeats 1000000
/-! the program's makings: a goal -/
namespace Pl
open PySem L2
theorem z_whl {C : CE} {c : E} {x : S} {nx bk ct : SU → Hm → Prop} {rt : QU} {σ : SU} {M : Hm} {W : Nat → SU → Hm → Prop} (h0 : ∃ m, W m σ M) (h : ∀ m σ M, W m σ M → (w C c).t σ M fun k M1 => if k = true then wS C x ⟨fun σ' M' => ∃ m', m' < m ∧ W m' σ' M', rt, nx, fun σ' M' => ∃ m', m' < m ∧ W m' σ' M'⟩ σ M1 else nx σ M1) : wS C (.whl c x) ⟨nx, rt, bk, ct⟩ σ M := ⟨W, h0, h⟩
theorem atI_last {α : Type} (l : List α) (x : α) : atI (l ++ [x]) (((l ++ [x]).length : Nat) - 1 : Int) = some x := by
  have e : (((l ++ [x]).length : Nat) - 1 : Int) = ((l.length : Nat) : Int) := by simp
  rw [e, atI_nat (by simp)]
  simp
theorem stepM_act {b : Bk} {wd : List Int} {st : Mst} {init : List Fm} {f : Fm} (h1 : f.at_ ≠ .done) (h2 : ∀ r k, f.at_ ≠ .ask r k) : (∃ st' g, actM b wd st f = (st', some g) ∧ stepM b wd st init f = .inl (st', init ++ [g])) ∨
    (∃ st' fi bs, actM b wd st f = (st', none) ∧ f.at_ = .see fi bs ∧ contentM b wd st fi = -2 ∧ st' = sn (mv st f.rule) fi f.rule ∧ stepM b wd st init f = .inr (st', .looks (b.heads.idxOf fi))) := by
  unfold actM stepM
  cases ha : f.at_ with
  | done => exact absurd ha h1
  | ask r k => exact absurd ha (h2 r k)
  | put fi c k => exact .inl ⟨_, _, rfl, rfl⟩
  | see fi bs =>
    cases hk : kfind (layM f.evs) fi with
    | some c => exact .inl ⟨mv st f.rule, ⟨f.rule, bs.getD (c + 1).toNat .done, f.evs ++ [.see fi c]⟩, by simp only [hk], by simp only [hk]⟩
    | none =>
      by_cases hc : contentM b wd st fi = -2
      · refine .inr ⟨_, fi, bs, ?_, rfl, hc, rfl, ?_⟩
        · simp only [hk, if_pos hc]
        · simp only [hk, if_pos hc]
      · refine .inl ⟨sn (mv st f.rule) fi f.rule, ⟨f.rule, bs.getD (contentM b wd st fi + 1).toNat .done, f.evs ++ [.see fi (contentM b wd st fi)]⟩, ?_, ?_⟩
        · simp only [hk, if_neg hc]
        · simp only [hk, if_neg hc]
def mb (b : Bk) : Nat := b.names.length * (b.deep + 2) + b.deep + 1
theorem mu_one {b : Bk} {st : Mst} {r : Str} {bd : Bd} (h : b.bodyOf r = some bd) : mu b st [⟨r, bd, []⟩] ≤ mb b := by
  have h1 := (body_names h).2
  have h2 : leftM b st [⟨r, bd, []⟩] ≤ b.names.length := List.length_filter_le _ _
  have h3 := Nat.mul_le_mul_right (b.deep + 2) h2
  unfold mu mb
  simp
  omega
structure RS (M : Hm) (A : MA) (k : Addr) (zs : List (Fm × FA)) (b : Bk) (wd : List Int) (st : Mst) : Prop where
  ma : MkAt M A b wd st
  fr : ∀ z ∈ zs, FrAt M z.2 z.1
  kk : M k = some (.lst (zs.map fun z => U.ref z.2.q))
  ka : k ∉ A.all
  kz : ∀ z ∈ zs, k ∉ z.2.all
  za : ∀ z ∈ zs, ∀ a ∈ z.2.all, a ∉ A.all
  zz : zs.Pairwise fun x y => ∀ a ∈ x.2.all, a ∉ y.2.all
/-- what was there and not the making's stays, off all that is new -/
structure Off (M0 : Hm) (A0 : MA) (M : Hm) (A : MA) (k : Addr) (zs : List (Fm × FA)) : Prop where
  old : ∀ a x, a ∉ A0.all → M0 a = some x → M a = some x ∧ a ∉ A.all ∧ a ≠ k ∧ ∀ z ∈ zs, a ∉ z.2.all
theorem Off.keep {M0 : Hm} {A0 : MA} {M : Hm} {A : MA} {k : Addr} {zs : List (Fm × FA)} (h : Off M0 A0 M A k zs) : Keep A0 A M0 M := ⟨fun a x h1 e => (h.old a x h1 e).1, fun a ha => by
  by_cases z : a ∈ A0.all
  · exact .inl z
  · cases e : M0 a with
    | none => exact .inr rfl
    | some x => exact absurd ha (h.old a x z e).2.1⟩
theorem pair_snoc {α : Type} {R : α → α → Prop} {l : List α} {x : α} : (l ++ [x]).Pairwise R ↔ l.Pairwise R ∧ ∀ y ∈ l, R y x := by
  rw [List.pairwise_append]
  simp
section
variable {M M' M0 : Hm} {A A' A0 : MA} {k : Addr} {zi zs : List (Fm × FA)} {f g : Fm} {z : FA} {b : Bk} {wd : List Int} {st st' : Mst}
theorem RS.top (h : RS M A k (zi ++ [(f, z)]) b wd st) : FrAt M z f ∧ (∀ a ∈ z.all, a ∉ A.all) ∧ k ∉ z.all :=
  ⟨h.fr (f, z) (by simp), h.za (f, z) (by simp), h.kz (f, z) (by simp)⟩
/-- the top frame goes on -/
theorem RS.go (h : RS M A k (zi ++ [(f, z)]) b wd st) (h1 : MkAt M' A' b wd st') (h2 : FrAt M' z g) (K : KeepZ z.all A A' M M') : RS M' A' k (zi ++ [(g, z)]) b wd st' := by
  obtain ⟨t1, t2, t3⟩ := h.top
  have hzz := pair_snoc.mp h.zz
  have na : ∀ {a x}, M a = some x → a ∉ A.all → a ∉ A'.all := fun {a x} e hn z2 => by
    rcases K.new a z2 with h3 | h3
    · exact hn h3
    · rw [e] at h3; cases h3
  refine ⟨h1, fun y hy => ?_, ?_, na h.kk h.ka, fun y hy => ?_, fun y hy a ha => ?_, pair_snoc.mpr ⟨hzz.1, fun y hy => hzz.2 y hy⟩⟩
  · rcases List.mem_append.mp hy with hy | hy
    · exact (h.fr y (List.mem_append_left _ hy)).keep K fun a ha => ⟨h.za y (List.mem_append_left _ hy) a ha, hzz.2 y hy a ha⟩
    · rw [List.mem_singleton] at hy; subst hy; exact h2
  · have e := K.old k _ h.ka t3 h.kk
    rw [e]
    simp
  · rcases List.mem_append.mp hy with hy | hy
    · exact h.kz y (List.mem_append_left _ hy)
    · rw [List.mem_singleton] at hy; subst hy; exact t3
  · rcases List.mem_append.mp hy with hy | hy
    · obtain ⟨x, e⟩ := (h.fr y (List.mem_append_left _ hy)).has ha
      exact na e (h.za y (List.mem_append_left _ hy) a ha)
    · rw [List.mem_singleton] at hy; subst hy
      obtain ⟨x, e⟩ := t1.has ha
      exact na e (t2 a ha)
theorem Off.go (o : Off M0 A0 M A k (zi ++ [(f, z)])) (K : KeepZ z.all A A' M M') : Off M0 A0 M' A' k (zi ++ [(g, z)]) := ⟨fun a x h1 e => by
  obtain ⟨o1, o2, o3, o4⟩ := o.old a x h1 e
  refine ⟨K.old a x o2 (o4 (f, z) (by simp)) o1, fun z2 => ?_, o3, fun y hy => ?_⟩
  · rcases K.new a z2 with h3 | h3
    · exact o2 h3
    · rw [o1] at h3; cases h3
  · rcases List.mem_append.mp hy with hy | hy
    · exact o4 y (List.mem_append_left _ hy)
    · rw [List.mem_singleton] at hy; subst hy; exact o4 (f, z) (by simp)⟩
theorem RS.keepA (h : RS M A k zs b wd st) (h1 : MkAt M' A' b wd st') (K : Keep A A' M M') : RS M' A' k zs b wd st' := by
  refine ⟨h1, fun y hy => (h.fr y hy).keep (K.z []) fun a ha => ⟨h.za y hy a ha, by simp⟩, K.old _ _ h.ka h.kk, K.out h.ka h.kk, h.kz, fun y hy a ha => ?_, h.zz⟩
  obtain ⟨x, e⟩ := (h.fr y hy).has ha
  exact K.out (h.za y hy a ha) e
theorem Off.keepA (o : Off M0 A0 M A k zs) (K : Keep A A' M M') : Off M0 A0 M' A' k zs := ⟨fun a x h1 e => by
  obtain ⟨o1, o2, o3, o4⟩ := o.old a x h1 e
  exact ⟨K.old a x o2 o1, K.out o2 o1, o3, o4⟩⟩
/-- the stack's row changed -/
theorem RS.pop (h : RS M A k (zi ++ [(f, z)]) b wd st) : RS (um M k (.lst (zi.map fun z => U.ref z.2.q))) A k zi b wd st := by
  refine ⟨h.ma.off h.ka, fun y hy => ?_, um_same, h.ka, fun y hy => h.kz y (List.mem_append_left _ hy), fun y hy => h.za y (List.mem_append_left _ hy), (pair_snoc.mp h.zz).1⟩
  have hf := h.fr y (List.mem_append_left _ hy)
  have hk := h.kz y (List.mem_append_left _ hy)
  exact ⟨hf.nd, um_oth (fun e => hk (by rw [← e]; simp [FA.all])) hf.q, um_oth (fun e => hk (by rw [← e]; simp [FA.all])) hf.e, um_oth (fun e => hk (by rw [← e]; simp [FA.all])) hf.o⟩
theorem Off.pop {o : MO} (h : Off M0 A0 M A k (zi ++ [(f, z)])) : Off M0 A0 (um M k o) A k zi := ⟨fun a x h1 e => by
  obtain ⟨o1, o2, o3, o4⟩ := h.old a x h1 e
  exact ⟨um_oth o3 o1, o2, o3, fun y hy => o4 y (List.mem_append_left _ hy)⟩⟩
theorem RS.push (h : RS M A k zs b wd st) (h1 : FrAt M z f) (h2 : ∀ a ∈ z.all, a ∉ A.all) (h3 : k ∉ z.all) (h4 : ∀ y ∈ zs, ∀ a ∈ y.2.all, a ∉ z.all) : RS (um M k (.lst ((zs ++ [(f, z)]).map fun z => U.ref z.2.q))) A k (zs ++ [(f, z)]) b wd st := by
  have fo : ∀ {z : FA} {f : Fm}, FrAt M z f → k ∉ z.all → FrAt (um M k (.lst ((zs ++ [(f, z)]).map fun z => U.ref z.2.q))) z f := fun {z f} hf hk =>
    ⟨hf.nd, um_oth (fun e => hk (by rw [← e]; simp [FA.all])) hf.q, um_oth (fun e => hk (by rw [← e]; simp [FA.all])) hf.e, um_oth (fun e => hk (by rw [← e]; simp [FA.all])) hf.o⟩
  have fo : ∀ {z2 : FA} {f2 : Fm}, FrAt M z2 f2 → k ∉ z2.all → FrAt (um M k (.lst ((zs ++ [(f, z)]).map fun z => U.ref z.2.q))) z2 f2 := fun {z f} hf hk =>
    ⟨hf.nd, um_oth (fun e => hk (by rw [← e]; simp [FA.all])) hf.q, um_oth (fun e => hk (by rw [← e]; simp [FA.all])) hf.e, um_oth (fun e => hk (by rw [← e]; simp [FA.all])) hf.o⟩
  refine ⟨h.ma.off h.ka, fun y hy => ?_, um_same, h.ka, fun y hy => ?_, fun y hy => ?_, pair_snoc.mpr ⟨h.zz, h4⟩⟩
  · rcases List.mem_append.mp hy with hy | hy
    · exact fo (h.fr y hy) (h.kz y hy)
    · rw [List.mem_singleton] at hy; subst hy; exact fo h1 h3
  · rcases List.mem_append.mp hy with hy | hy
    · exact h.kz y hy
    · rw [List.mem_singleton] at hy; subst hy; exact h3
  · rcases List.mem_append.mp hy with hy | hy
    · exact h.za y hy
    · rw [List.mem_singleton] at hy; subst hy; exact h2
theorem Off.push {o : MO} (h : Off M0 A0 M A k zs) (hz : ∀ a x, a ∉ A0.all → M0 a = some x → a ∉ z.all) : Off M0 A0 (um M k o) A k (zs ++ [(f, z)]) := ⟨fun a x h1 e => by
  obtain ⟨o1, o2, o3, o4⟩ := h.old a x h1 e
  refine ⟨um_oth o3 o1, o2, o3, fun y hy => ?_⟩
  rcases List.mem_append.mp hy with hy | hy
  · exact o4 y hy
  · rw [List.mem_singleton] at hy; subst hy; exact hz a x h1 e⟩
end
theorem StOk.drop {b : Bk} {st : Mst} {stack : List Fm} (h : StOk b st stack) : StOk b st [] := by
  have h1 := h.conL
  have h2 := h.ownL
  exact ⟨fun _ z => (by cases z), h.cont, (by simp [evsum]; omega), (by simp [evsum]; omega), h.ordL, h.donL, h.seeL, h.done, h.ownS, h.ordS, h.movS, h.agree⟩
theorem StOk.mv0 {b : Bk} {st : Mst} {r : Str} (h : StOk b st []) (hr : okS r = true) : StOk b (mv st r) [] := by
  have h1 := h.conL
  have h2 := h.ownL
  have h3 := h.ordL
  have h4 := h.donL
  have h5 := h.seeL
  simp only [evsum] at h1 h2
  exact ⟨fun _ z => (by cases z), h.cont, by simp [evsum, mv] at *; omega, by simp [evsum, mv] at *; omega, by simp [mv]; omega, by simp [mv]; omega, by simp [mv]; omega, h.done, h.ownS, h.ordS, mov_app h.movS hr, h.agree⟩
theorem StOk.sn0 {b : Bk} {st : Mst} {r g q : Str} (h : StOk b st []) (hr : okS r = true) : StOk b (sn (mv st r) g q) [] := by
  have h0 := h.mv0 hr
  have h5 := h.seeL
  exact ⟨h0.fms, h0.cont, h0.conL, h0.ownL, h0.ordL, h0.donL, by simp [sn, mv]; omega, h0.done, h0.ownS, h0.ordS, h0.movS, h0.agree⟩
end Pl

set_option maxHeartbeats 1000000
/-! the program's makings: the branches of a turn -/
namespace Pl
open PySem L2
theorem Off.nil {M0 : Hm} {A0 : MA} {M : Hm} {A : MA} {k : Addr} {zs : List (Fm × FA)} (h : Off M0 A0 M A k zs) : Off M0 A0 M A k [] := ⟨fun a x h1 e => by
  obtain ⟨o1, o2, o3, o4⟩ := h.old a x h1 e
  exact ⟨o1, o2, o3, by simp⟩⟩
theorem idxOf_first {x : Str} : ∀ {l : List Str} (m : Nat), m < l.idxOf x → l[m]? ≠ some x
  | [], m, h, e => by simp at e
  | y :: l, m, h, e => by
    rw [List.idxOf_cons] at h
    cases hb : (y == x) with
    | true => rw [hb] at h; simp at h
    | false =>
      rw [hb] at h
      simp only [cond_false] at h
      cases m with
      | zero =>
        simp at e
        rw [e] at hb
        simp at hb
      | succ m => exact idxOf_first (l := l) (x := x) m (by omega) (by simpa using e)
theorem mem_fst {zs : List (Fm × FA)} {z : Fm × FA} (h : z ∈ zs) : z.1 ∈ zs.map (·.1) := List.mem_map.mpr ⟨z, h, rfl⟩
section
variable {C : CE} {nx bk ct : SU → Hm → Prop} {rt : QU} {M M0 : Hm} {A A0 : MA} {k : Addr} {zi : List (Fm × FA)} {f : Fm} {z : FA} {b : Bk} {wd : List Int} {st : Mst} {u1 u4 u5 u6 u7 u8 : Option U}
theorem done_br {ff : Nat} (hfin : FinF C ff) (hb : BkOk b) (h : RS M A k (zi ++ [(f, z)]) b wd st) (o : Off M0 A0 M A k (zi ++ [(f, z)])) (hs : StOk b st ((zi ++ [(f, z)]).map (·.1))) (hl : st.moves.length < 80000)
    (hq1 : ∀ M' v5, faultM b (mv st f.rule) f.rule (layM f.evs) = none → RS M' A k zi b wd (finM (mv st f.rule) f.rule f.evs) → Off M0 A0 M' A k zi → nx [some (.ref A.p), u1, some (.ref k), some (.ref z.q), u4, v5, u6, u7, u8] M')
    (hq2 : ∀ M' ou, faultM b (mv st f.rule) f.rule (layM f.evs) = some ou → MkAt M' A b wd (mv st f.rule) → Off M0 A0 M' A k [] → rt (encO ou) M') :
    wS C (.seq (.expr (.mth .append (.fld "moves" (.var 0)) (.cons (.fld "rule" (.var 3)) .nil))) (.seq (.asg 5 (.meth "Making" "finish" ff (.var 0) (.cons (.fld "rule" (.var 3)) (.cons (.blt .tuple (.cons (.fld "events" (.var 3)) .nil)) .nil)))) (.seq (.ifs (.notN (.var 5)) (.seq (.ret (.var 5)) .skip) .skip) (.seq (.expr (.mth .pop (.var 2) .nil)) .skip)))) ⟨nx, rt, bk, ct⟩ [some (.ref A.p), u1, some (.ref k), some (.ref z.q), u4, u5, u6, u7, u8] M := by
  obtain ⟨t1, t2, t3⟩ := h.top
  have hp := h.ma.p
  have hm := h.ma.m
  have hfq := t1.q
  have hfe := t1.e
  have n := MA.ne h.ma.nd
  obtain ⟨m1, m2, m3⟩ := notin t2 A.m (by simp [MA.all, MA.fix])
  have h1 := hs.conL
  have h2 := hs.ownL
  have h3 := hs.ordL
  have h4 := hs.donL
  rw [List.map_append, List.map_singleton, evsum_snoc] at h1 h2
  dsimp only at h1 h2
  have hrl := hb.rl
  unfold mkF at hp
  unfold frF at hfq
  (repeat decreasing_trivial_pre_omega)
  refine m_app hm (by rw [List.length_map]; unfold LIM; omega) ?_
  have e1 := h.ma.setm f.rule
  have e6 : st.moves.map U.str ++ [U.str f.rule] = (st.moves ++ [f.rule]).map U.str := by simp
  rw [e6]
  have hp1 := e1.p
  have K1 : Keep A A M (um M A.m (.lst ((st.moves ++ [f.rule]).map U.str))) := keep_um (by simp [MA.all, MA.fix])
  have r1 := h.keepA e1 K1
  have o1 := o.keepA K1
  (repeat decreasing_trivial_pre_omega)
  refine hfin _ A b wd (mv st f.rule) _ _ _ e1 (by unfold LIM; omega) (by unfold LIM; omega) (by simp only [mv]; unfold LIM; omega) (by simp only [mv]; unfold LIM; omega) (by simp only [mv]; unfold LIM; omega) (by simp only [mv]; unfold LIM; omega) (fun M' ou hf hM hK => ?_) (fun M' hf hM hK => ?_)
  · have hne : encO ou ≠ .non := by cases ou <;> simp [encO]
    (repeat decreasing_trivial_pre_omega)
    exact hq2 M' ou hf hM (o1.keepA hK).nil
  · have r2 := r1.keepA hM hK
    have o2 := o1.keepA hK
    have hkk := r2.kk
    (repeat decreasing_trivial_pre_omega)
    refine m_pop (us := (zi ++ [(f, z)]).map fun z => U.ref z.2.q) (x := .ref z.q) hkk (by simp) ?_
    rw [show ((zi ++ [(f, z)]).map fun z => U.ref z.2.q).dropLast = zi.map fun z => U.ref z.2.q by simp]
    (repeat decreasing_trivial_pre_omega)
    exact hq1 _ _ hf r2.pop o2.pop
theorem other_br {fs : Nat} (hst : StepF C fs) (hb : BkOk b) (hw : WdOk b wd) (h : RS M A k (zi ++ [(f, z)]) b wd st) (o : Off M0 A0 M A k (zi ++ [(f, z)])) (hs : StOk b st ((zi ++ [(f, z)]).map (·.1))) (hl : st.moves.length < 80000) (hd : f.at_ ≠ .done) (ha : ∀ r k, f.at_ ≠ .ask r k)
    (hq1 : ∀ A' M' st' g, A'.p = A.p → actM b wd st f = (st', some g) → RS M' A' k (zi ++ [(g, z)]) b wd st' → Off M0 A0 M' A' k (zi ++ [(g, z)]) → nx [some (.ref A.p), u1, some (.ref k), some (.ref z.q), u4, u5, u6, u7, u8] M')
    (hq2 : ∀ A' M' st' fi bs, A'.p = A.p → actM b wd st f = (st', none) → f.at_ = .see fi bs → MkAt M' A' b wd st' → Off M0 A0 M' A' k [] → rt (encO (.looks (b.heads.idxOf fi))) M') :
    wS C (.seq (.ifs (.cmp .eq (.call fs (.cons (.var 0) (.cons (.var 3) .nil))) (.neg (.int 2))) (.seq (.ret (.tup (.cons (.str "looks") (.cons (.tidx (.ix (.fld "rulebook" (.var 0)) (.int 1)) (.ix (.fld "at" (.var 3)) (.int 1))) .nil)))) .skip) .skip) .skip) ⟨nx, rt, bk, ct⟩ [some (.ref A.p), u1, some (.ref k), some (.ref z.q), u4, u5, u6, u7, u8] M := by
  obtain ⟨t1, t2, t3⟩ := h.top
  have hfo : FmOk b f := hs.fms f (by simp)
  have h1 := hs.conL
  have h5 := hs.seeL
  rw [List.map_append, List.map_singleton, evsum_snoc] at h1
  dsimp only at h1
  (repeat decreasing_trivial_pre_omega)
  refine hst _ A z b wd st f _ hw hb.n0 h.ma t1 hfo hs.cont t2 hd ha (by unfold LIM; omega) (by unfold LIM; omega) (by omega) (fun A' M' st' g e0 e1 e2 e3 e4 => ?_) (fun A' M' st' e0 e1 e2 e3 e4 => ?_)
  · (repeat decreasing_trivial_pre_omega)
    have := hq1 A' M' st' g e0 e1 (h.go e2 e3 e4) (o.go e4)
    exact this
  · have r2 := h.go e2 e3 e4
    have hfq := e3.q
    rcases stepM_act (b := b) (wd := wd) (st := st) (init := zi.map (·.1)) hd ha with ⟨s1, g, q1, _⟩ | ⟨s1, fi, bs, q1, q2, q3, q4, q5⟩
    · rw [e1] at q1
      cases q1
    · rw [e1] at q1
      cases q1
      have hp := e2.p
      rw [e0] at hp
      unfold mkF encBk at hp
      unfold frF at hfq
      rw [q2] at hfq
      unfold encB at hfq
      have hin : fi ∈ b.heads := by
        rcases content_rng hw hs.cont fi with h7 | h7 | h7
        · exact h7.2
        · omega
        · omega
      (repeat decreasing_trivial_pre_omega)
      refine m_tidx (j := b.heads.idxOf fi) ?_ ?_ ?_
      · rw [List.getElem?_eq_getElem (List.idxOf_lt_length_iff.mpr hin)]
        simp
      · intro m hm z2
        exact idxOf_first m hm z2
      (repeat decreasing_trivial_pre_omega)
      have := hq2 A' M' _ fi bs e0 e1 q2 e2 ((o.go e4 : Off M0 A0 M' A' k (zi ++ [(f, z)])).nil)
      exact this
theorem ask_br {fb : Nat} {r : Str} {kd : Bd} (hbg : BegF C fb) (hb : BkOk b) (h : RS M A k (zi ++ [(f, z)]) b wd st) (o : Off M0 A0 M A k (zi ++ [(f, z)])) (hs : StOk b st ((zi ++ [(f, z)]).map (·.1))) (hl : st.moves.length < 80000) (hat : f.at_ = .ask r kd) (hzl : zi.length < 80000)
    (hq1 : ∀ M' v6 v7 v8, (kfind st.done r).isSome = true → RS M' A k (zi ++ [(⟨f.rule, kd, f.evs ++ [.ask r]⟩, z)]) b wd (mv st f.rule) → Off M0 A0 M' A k (zi ++ [(⟨f.rule, kd, f.evs ++ [.ask r]⟩, z)]) → nx [some (.ref A.p), u1, some (.ref k), some (.ref z.q), u4, u5, v6, v7, v8] M')
    (hq2 : ∀ M', ¬ (kfind st.done r).isSome = true → r ∈ (zi ++ [(f, z)]).map (·.1.rule) → MkAt M' A b wd st → Off M0 A0 M' A k [] → rt (encO (.stuck (((zi ++ [(f, z)]).map (·.1.rule)).drop (((zi ++ [(f, z)]).map (·.1.rule)).idxOf r)))) M')
    (hq3 : ∀ M' bd z' v6 v7 v8, ¬ (kfind st.done r).isSome = true → r ∉ (zi ++ [(f, z)]).map (·.1.rule) → b.bodyOf r = some bd → RS M' A k ((zi ++ [(f, z)]) ++ [(⟨r, bd, []⟩, z')]) b wd (mv st r) → Off M0 A0 M' A k ((zi ++ [(f, z)]) ++ [(⟨r, bd, []⟩, z')]) → nx [some (.ref A.p), u1, some (.ref k), some (.ref z.q), u4, u5, v6, v7, v8] M') :
    wS C (.seq (.asg 6 (.ix (.fld "at" (.var 3)) (.int 1))) (.seq (.asg 7 (.comp [("one", 8)] (.one 8) (.iSeq (.var 2)) .nil (.fld "rule" (.var 8)))) (.seq (.ifs (.cmp .isin (.var 6) (.fld "done" (.var 0))) (.seq (.expr (.mth .append (.fld "moves" (.var 0)) (.cons (.fld "rule" (.var 3)) .nil))) (.seq (.expr (.mth .append (.fld "events" (.var 3)) (.cons (.tup (.cons (.str "ask") (.cons (.var 6) .nil))) .nil))) (.seq (.setF "Frame" "at" (.var 3) (.ix (.fld "at" (.var 3)) (.int 2))) .skip))) (.seq (.ifs (.cmp .isin (.var 6) (.var 7)) (.seq (.ret (.tup (.cons (.str "stuck") (.cons (.blt .tuple (.cons (.slice (.var 7) (.mth .index (.var 7) (.cons (.var 6) .nil)) .nil) .nil)) .nil)))) .skip) (.seq (.expr (.mth .append (.var 2) (.cons (.call fb (.cons (.var 0) (.cons (.var 6) .nil))) .nil))) .skip)) .skip)) .skip))) ⟨nx, rt, bk, ct⟩ [some (.ref A.p), u1, some (.ref k), some (.ref z.q), u4, u5, u6, u7, u8] M := by
  obtain ⟨t1, t2, t3⟩ := h.top
  have hfo : FmOk b f := hs.fms f (by simp)
  obtain ⟨j, hj⟩ := hfo.at_
  rw [hat] at hj
  obtain ⟨bd, hbd⟩ : ∃ bd, b.bodyOf r = some bd := by cases hj with | ask g1 g2 => exact bodyOf_some g1
  obtain ⟨okr, _⟩ := bodyOf_ok2 hb hbd
  have hkk := h.kk
  have hfq := t1.q
  have h1 := hs.conL
  rw [List.map_append, List.map_singleton, evsum_snoc] at h1
  dsimp only at h1
  unfold frF at hfq
  rw [hat] at hfq
  unfold encB at hfq
  (repeat decreasing_trivial_pre_omega)
  refine compL_by (enc := fun y : Fm × FA => U.ref y.2.q) (fun don rest acc M' => M' = M ∧ acc = don.map fun y => .str y.1.rule) (zi ++ [(f, z)]) ⟨rfl, rfl⟩ ?_ ?_
  · intro don x rest acc M' kk e ⟨e1, e2⟩ hk
    subst e1 e2
    have hx := (h.fr x (by rw [← e]; simp)).q
    unfold frF at hx
    (repeat decreasing_trivial_pre_omega)
    refine hk _ _ hkk (fun _ => ?_) ⟨rfl, by simp⟩
    have : don.length + rest.length + 1 = (zi ++ [(f, z)]).length := by rw [← e]; simp; omega
    simp only [List.length_append, List.length_singleton] at this
    rw [List.length_map]
    unfold LIM
    omega
  intro acc M' ⟨e1, e2⟩
  subst e1 e2
  intro u hu
  have s1 : Sub M' (um M' u (.lst ((zi ++ [(f, z)]).map fun y => U.str y.1.rule))) := sub_um (Sub.refl _) hu
  have h' := h.keepA (h.ma.sub s1) s1.keep
  have o' := o.keepA (A' := A) s1.keep
  have hu1 : um M' u (.lst ((zi ++ [(f, z)]).map fun y => U.str y.1.rule)) u = some (.lst (((zi ++ [(f, z)]).map (·.1.rule)).map U.str)) := by rw [um_same, List.map_map]; rfl
  generalize um M' u (.lst ((zi ++ [(f, z)]).map fun y => U.str y.1.rule)) = M1 at h' o' hu1 s1 ⊢
  obtain ⟨t1', _, _⟩ := h'.top
  have hp := h'.ma.p
  have hm := h'.ma.m
  have hd := h'.ma.d
  have hfq1 := t1'.q
  have hfe1 := t1'.e
  have n := MA.ne h'.ma.nd
  have npm := n.pm
  obtain ⟨m1, m2, m3⟩ := notin t2 A.m (by simp [MA.all, MA.fix])
  obtain ⟨n1, n2, n3⟩ := t1'.ne
  unfold mkF at hp
  unfold frF at hfq1
  rw [hat] at hfq1
  unfold encB at hfq1
  (repeat decreasing_trivial_pre_omega)
  refine in_dct hd rfl ?_
  rw [dU_find, Option.isSome_map]
  by_cases hdn : (kfind st.done r).isSome = true
  · refine i_ift hdn ?_
    (repeat decreasing_trivial_pre_omega)
    refine m_app hm (by rw [List.length_map]; unfold LIM; omega) ?_
    have e1 := h'.ma.setm f.rule
    have e6 : st.moves.map U.str ++ [U.str f.rule] = (st.moves ++ [f.rule]).map U.str := by simp
    rw [e6]
    (repeat decreasing_trivial_pre_omega)
    refine m_app (um_oth m2 hfe1) (by rw [List.length_map]; unfold LIM; omega) ?_
    have e7 : f.evs.map encE ++ [.tup [.str "ask", .str r]] = (f.evs ++ [Ev.ask r]).map encE := by simp [encE]
    rw [e7]
    (repeat decreasing_trivial_pre_omega)
    have K1 : Keep A A M1 (um M1 A.m (.lst ((st.moves ++ [f.rule]).map U.str))) := keep_um (by simp [MA.all, MA.fix])
    have hqq : z.q ∈ z.all := by simp [FA.all]
    have hee : z.e ∈ z.all := by simp [FA.all]
    rw [show fput "at" (encB kd) [(("rule" : Str), U.str f.rule), ("at", U.tup [U.str "ask", U.str r, encB kd]), ("events", U.ref z.e), ("own", U.ref z.o)] = frF ⟨f.rule, kd, f.evs ++ [Ev.ask r]⟩ z from rfl]
    have KZ := ((K1.z z.all).upd (o := .lst ((f.evs ++ [Ev.ask r]).map encE)) hee).upd (o := .obj "Frame" (frF ⟨f.rule, kd, f.evs ++ [Ev.ask r]⟩ z)) hqq
    have fr : FrAt (um (um (um M1 A.m (.lst ((st.moves ++ [f.rule]).map U.str))) z.e (.lst ((f.evs ++ [Ev.ask r]).map encE))) z.q (.obj "Frame" (frF ⟨f.rule, kd, f.evs ++ [Ev.ask r]⟩ z))) z ⟨f.rule, kd, f.evs ++ [Ev.ask r]⟩ := by
      refine ⟨t1.nd, um_same, um_oth n1.symm um_same, ?_⟩
      rw [layM_snoc]
      exact um_oth n2.symm (um_oth n3.symm (um_oth m3 t1'.o))
    exact hq1 _ _ _ _ hdn (h'.go ((e1.off (t2 _ hee)).off (t2 _ hqq)) fr KZ) (o'.go KZ)
  · refine i_iff (by simpa using hdn) ?_
    (repeat decreasing_trivial_pre_omega)
    have okn : okL (((zi ++ [(f, z)]).map (·.1.rule)).map U.str) = true := okL_of fun x hx => by
      rw [List.map_map, List.mem_map] at hx
      obtain ⟨y, hy, rfl⟩ := hx
      exact (hs.fms _ (mem_fst hy)).rule
    refine in_lst hu1 okr okn ?_
    by_cases hin : r ∈ (zi ++ [(f, z)]).map (·.1.rule)
    · refine i_ift (decide_eq_true (mem_strs.mpr hin)) ?_
      (repeat decreasing_trivial_pre_omega)
      refine m_index (j := ((zi ++ [(f, z)]).map (·.1.rule)).idxOf r) hu1 okr okn ?_ ?_ ?_
      · rw [List.getElem?_map, List.getElem?_eq_getElem (List.idxOf_lt_length_iff.mpr hin)]
        simp
      · intro m hm2 z2
        rw [List.getElem?_map] at z2
        cases e : ((zi ++ [(f, z)]).map (·.1.rule))[m]? with
        | none => rw [e] at z2; cases z2
        | some y =>
          rw [e] at z2
          have z3 : U.str y = U.str r := Option.some.inj z2
          injection z3 with z3
          rw [z3] at e
          exact idxOf_first m hm2 e
      (repeat decreasing_trivial_pre_omega)
      rw [cutU_drop]
      intro q hq
      (repeat decreasing_trivial_pre_omega)
      rw [← List.map_drop]
      have s2 : Sub M1 (um M1 q (.lst ((((zi ++ [(f, z)]).map (·.1.rule)).drop (((zi ++ [(f, z)]).map (·.1.rule)).idxOf r)).map U.str))) := sub_um (Sub.refl _) hq
      exact hq2 _ hdn hin (h'.ma.sub s2) (o'.keepA (A' := A) s2.keep).nil
    · refine i_iff (decide_eq_false fun z2 => hin (mem_strs.mp z2)) ?_
      have hkk1 := h'.kk
      (repeat decreasing_trivial_pre_omega)
      refine hbg _ A b wd st r bd _ h'.ma hbd (by unfold LIM; omega) fun z' M2 g1 g2 g3 g4 => ?_
      have h2 := h'.keepA g1 g4
      have o2 := o'.keepA g4
      have hkk2 := h2.kk
      (repeat decreasing_trivial_pre_omega)
      refine m_app hkk2 (by rw [List.length_map, List.length_append, List.length_singleton]; unfold LIM; omega) ?_
      (repeat decreasing_trivial_pre_omega)
      have e8 : ((zi ++ [(f, z)]).map fun y => U.ref y.2.q) ++ [U.ref z'.q] = ((zi ++ [(f, z)]) ++ [((⟨r, bd, []⟩ : Fm), z')]).map fun y => U.ref y.2.q := by simp
      rw [e8]
      have fresh : ∀ a x, M1 a = some x → a ∉ z'.all := fun a x e z2 => by rw [g3 a z2] at e; cases e
      have hz' : ∀ a ∈ z'.all, a ∉ A.all := fun a ha z2 => by
        obtain ⟨x, e⟩ := h'.ma.has z2
        exact fresh a x e ha
      refine hq3 _ bd z' _ _ _ hdn hin hbd (h2.push g2 hz' (fresh _ _ h'.kk) fun y hy a ha => ?_) (o2.push fun a x ha e => ?_)
      · obtain ⟨x, e⟩ := (h'.fr y hy).has ha
        exact fresh a x e
      · exact fresh a x (o'.old a x ha e).1
end
end Pl

set_option maxHeartbeats 1000000
/-! the program's makings: a goal, goals -/
namespace Pl
open PySem L2
theorem run_next {b : Bk} {wd : List Int} {st s1 : Mst} {init stk : List Fm} {f : Fm} {R : Mst × Option Out} (e : stepM b wd st init f = .inl (s1, stk)) (hr : ∀ n, mu b st (init ++ [f]) ≤ n → runM b wd n st (init ++ [f]) = R) : ∀ n, mu b s1 stk ≤ n → runM b wd n s1 stk = R := fun n hn => by
  have h1 := (mu_step e).1
  have h2 := hr (n + mu b st (init ++ [f]) + 1) (by omega)
  rw [runM_snoc, e] at h2
  rw [← h2]
  exact (runM_enough n _ _ _ hn (by omega)).symm
theorem run_out {b : Bk} {wd : List Int} {st s1 : Mst} {init : List Fm} {f : Fm} {ou : Out} {R : Mst × Option Out} (e : stepM b wd st init f = .inr (s1, ou)) (hr : ∀ n, mu b st (init ++ [f]) ≤ n → runM b wd n st (init ++ [f]) = R) : R = (s1, some ou) := by
  have h2 := hr (mu b st (init ++ [f]) + 1) (by omega)
  rw [runM_snoc, e] at h2
  exact h2.symm
theorem stack_len {b : Bk} {st : Mst} {zs : List (Fm × FA)} : zs.length ≤ mu b st (zs.map (·.1)) := by
  unfold mu
  have : ∀ l : List (Fm × FA), l.length ≤ ((l.map (·.1)).map fun f => ht f.at_ + 1).sum := fun l => by
    induction l with
    | nil => simp
    | cons x l ih => simp only [List.map_cons, List.sum_cons, List.length_cons]; omega
  have := this zs
  omega
section
variable {C : CE} {nx bk ct : SU → Hm → Prop} {rt : QU} {M : Hm} {z : FA} {f : Fm} {u0 u1 u2 u4 u5 u6 u7 u8 : Option U} {S1 S2 S3 : S}
theorem disp_done (hq : FrAt M z f) (ha : f.at_ = .done) (q : wS C S1 ⟨wS C .skip ⟨nx, rt, bk, ct⟩, rt, bk, ct⟩ [u0, u1, u2, some (.ref z.q), some (.str "done"), u5, u6, u7, u8] M) :
    wS C (.seq (.asg 4 (.ix (.fld "at" (.var 3)) (.int 0))) (.seq (.ifs (.cmp .eq (.var 4) (.str "done")) S1 S2) .skip)) ⟨nx, rt, bk, ct⟩ [u0, u1, u2, some (.ref z.q), u4, u5, u6, u7, u8] M := by
  have hfq := hq.q
  unfold frF at hfq
  rw [ha] at hfq
  unfold encB at hfq
  (repeat decreasing_trivial_pre_omega)
  exact q
theorem disp_ask {r : Str} {kd : Bd} (hq : FrAt M z f) (ha : f.at_ = .ask r kd) (q : wS C S1 ⟨wS C .skip ⟨wS C .skip ⟨nx, rt, bk, ct⟩, rt, bk, ct⟩, rt, bk, ct⟩ [u0, u1, u2, some (.ref z.q), some (.str "ask"), u5, u6, u7, u8] M) :
    wS C (.seq (.asg 4 (.ix (.fld "at" (.var 3)) (.int 0))) (.seq (.ifs (.cmp .eq (.var 4) (.str "done")) S2 (.seq (.ifs (.cmp .eq (.var 4) (.str "ask")) S1 S3) .skip)) .skip)) ⟨nx, rt, bk, ct⟩ [u0, u1, u2, some (.ref z.q), u4, u5, u6, u7, u8] M := by
  have hfq := hq.q
  unfold frF at hfq
  rw [ha] at hfq
  unfold encB at hfq
  (repeat decreasing_trivial_pre_omega)
  exact q
theorem disp_other (hq : FrAt M z f) (h1 : f.at_ ≠ .done) (h2 : ∀ r k, f.at_ ≠ .ask r k) (q : ∀ v4, wS C S3 ⟨wS C .skip ⟨wS C .skip ⟨nx, rt, bk, ct⟩, rt, bk, ct⟩, rt, bk, ct⟩ [u0, u1, u2, some (.ref z.q), v4, u5, u6, u7, u8] M) :
    wS C (.seq (.asg 4 (.ix (.fld "at" (.var 3)) (.int 0))) (.seq (.ifs (.cmp .eq (.var 4) (.str "done")) S2 (.seq (.ifs (.cmp .eq (.var 4) (.str "ask")) S1 S3) .skip)) .skip)) ⟨nx, rt, bk, ct⟩ [u0, u1, u2, some (.ref z.q), u4, u5, u6, u7, u8] M := by
  have hfq := hq.q
  unfold frF at hfq
  cases ha : f.at_ with
  | done => exact absurd ha h1
  | ask r k => exact absurd ha (h2 r k)
  | put fi c k =>
    rw [ha] at hfq
    unfold encB at hfq
    (repeat decreasing_trivial_pre_omega)
    exact q _
  | see fi bs =>
    rw [ha] at hfq
    unfold encB at hfq
    (repeat decreasing_trivial_pre_omega)
    exact q _
end
/-- what holds between the turns of a goal's loop -/
def GW (M0 : Hm) (A0 : MA) (k : Addr) (b : Bk) (wd : List Int) (goal : Str) (R : Mst × Option Out) (B : Nat) (m : Nat) (σ : SU) (M : Hm) : Prop := ∃ (A : MA) (zs : List (Fm × FA)) (st : Mst) (u3 u4 u5 u6 u7 u8 : Option U),
  σ = [some (.ref A.p), some (.str goal), some (.ref k), u3, u4, u5, u6, u7, u8] ∧ A.p = A0.p ∧ RS M A k zs b wd st ∧ Off M0 A0 M A k zs ∧ StOk b st (zs.map (·.1)) ∧ m = mu b st (zs.map (·.1)) ∧ st.moves.length + m ≤ B ∧ (∀ n, m ≤ n → runM b wd n st (zs.map (·.1)) = R)
theorem stuck_okU {l : List Str} (h : ∀ s ∈ l, okS s = true) : okU (encO (.stuck l)) = true := by
  have h0 : okS ("stuck" : Str) = true := by decide +kernel
  simp only [encO, okU, U.ok, List.all_cons, List.all_nil, Bool.and_true, h0, Bool.true_and, List.all_map]
  exact List.all_eq_true.mpr fun s hs => h s hs
theorem broken_okU {k f r o : Str} (h1 : okS k = true) (h2 : okS f = true) (h3 : okS r = true) (h4 : okS o = true) : okU (encO (.broken k f r o)) = true := by
  have h0 : okS ("broken" : Str) = true := by decide +kernel
  simp only [encO, okU, U.ok, List.all_cons, List.all_nil, Bool.and_true, h0, h1, h2, h3, h4]
theorem fault_okU {b : Bk} (hb : BkOk b) {st : Mst} {rule : Str} {ou : Out} : ∀ {lay : List (Str × Int)}, faultM b st rule lay = some ou → okS rule = true → (∀ p ∈ lay, okS p.1 = true) → (∀ p ∈ st.owners, okS p.2 = true) → okU (encO ou) = true
  | [], h, _, _, _ => by cases h
  | p :: l, h, h1, h2, h3 => by
    rw [faultM_cons] at h
    by_cases hh : p.1 ∈ b.heads
    · rw [if_pos hh] at h
      cases h
      exact broken_okU (by decide +kernel) (h2 p List.mem_cons_self) h1 (by decide +kernel)
    · rw [if_neg hh] at h
      cases ho : kfind st.owners p.1 with
      | some o =>
        rw [ho] at h
        cases h
        exact broken_okU (by decide +kernel) (h2 p List.mem_cons_self) h1 (h3 _ (kfind_mem ho))
      | none =>
        rw [ho] at h
        cases hr : readerM b st.seen rule p.1 with
        | some n =>
          rw [hr] at h
          cases h
          have hn : n ∈ b.names := List.mem_of_find?_eq_some hr
          obtain ⟨r, hr2, rfl⟩ := List.mem_map.mp hn
          exact broken_okU (by decide +kernel) (h2 p List.mem_cons_self) h1 (hb.rows r hr2).1
        | none =>
          rw [hr] at h
          exact fault_okU hb h h1 (fun q hq => h2 q (List.mem_cons_of_mem _ hq)) h3
theorem rungoal_ok {C : CE} {ff fb fs : Nat} (hfin : FinF C ff) (hbg : BegF C fb) (hst : StepF C fs) {nx bk ct : SU → Hm → Prop} {rt : QU} {M : Hm} {A : MA} {b : Bk} {wd : List Int} {st : Mst} {goal : Str} {bd : Bd} (hb : BkOk b) (hw : WdOk b wd) (h : MkAt M A b wd st) (hs : StOk b st []) (hbd : b.bodyOf goal = some bd) (hB : st.moves.length + 1 + mb b < 80000)
    (hq : ∀ A' M' st' ou, goalM b wd st goal = (st', ou) → A'.p = A.p → MkAt M' A' b wd st' → Keep A A' M M' → StOk b st' [] → st'.moves.length ≤ st.moves.length + 1 + mb b → okU (outO ou) = true → rt (optO ou) M') :
    wS C (B_run_goal ff fb fs) ⟨nx, rt, bk, ct⟩ (startU 9 [.ref A.p, .str goal]) M := by
  have okg := (bodyOf_ok2 hb hbd).1
  have obd := (bodyOf_ok2 hb hbd).2
  unfold B_run_goal
  (repeat decreasing_trivial_pre_omega)
  refine hbg _ A b wd st goal bd _ h hbd (by unfold LIM; omega) fun z M1 e1 f1 fr1 K1 => ?_
  (repeat decreasing_trivial_pre_omega)
  intro k hk
  have fo : ∀ {a : Addr} {x : MO}, M1 a = some x → um M1 k (.lst [.ref z.q]) a = some x := fun {a x} e => um_old e hk
  have fz : FrAt (um M1 k (.lst [.ref z.q])) z ⟨goal, bd, []⟩ := ⟨f1.nd, fo f1.q, fo f1.e, fo f1.o⟩
  have kz : k ∉ z.all := fun hz => by
    obtain ⟨x, e⟩ := f1.has hz
    rw [hk] at e
    cases e
  have fresh : ∀ a x, M a = some x → a ∉ z.all := fun a x e z2 => by rw [fr1 a z2] at e; cases e
  have rs : RS (um M1 k (.lst [.ref z.q])) A k [(⟨goal, bd, []⟩, z)] b wd (mv st goal) := ⟨e1.off (e1.new hk), fun y hy => by rw [List.mem_singleton] at hy; subst hy; exact fz, um_same, e1.new hk, fun y hy => by rw [List.mem_singleton] at hy; subst hy; exact kz, fun y hy a ha z2 => by
    rw [List.mem_singleton] at hy; subst hy
    obtain ⟨x, e⟩ := h.has z2
    exact fresh a x e ha, List.pairwise_singleton _ _⟩
  have off : Off M A (um M1 k (.lst [.ref z.q])) A k [(⟨goal, bd, []⟩, z)] := ⟨fun a x ha e => by
    have e2 := K1.old a x ha e
    exact ⟨fo e2, ha, fun z2 => (by rw [z2, hk] at e2; cases e2), fun y hy => by rw [List.mem_singleton] at hy; subst hy; exact fresh a x e⟩⟩
  have s0 : StOk b (mv st goal) [⟨goal, bd, []⟩] := by
    have s1 := hs.mv0 okg
    refine ⟨fun g hg => ?_, s1.cont, ?_, ?_, s1.ordL, s1.donL, s1.seeL, s1.done, s1.ownS, s1.ordS, s1.movS, s1.agree⟩
    · rw [List.mem_singleton] at hg; subst hg; exact ⟨okg, obd, (by simp), (by simp)⟩
    · exact s1.conL
    · exact s1.ownL
  have hmu := mu_one (st := mv st goal) hbd
  have hgoal : goalM b wd st goal = runM b wd (mu b (mv st goal) [⟨goal, bd, []⟩]) (mv st goal) [⟨goal, bd, []⟩] := by
    unfold goalM
    rw [hbd]
  (repeat decreasing_trivial_pre_omega)
  refine z_whl (W := GW M A k b wd goal (goalM b wd st goal) (st.moves.length + 1 + mb b)) ⟨_, A, [(⟨goal, bd, []⟩, z)], mv st goal, none, none, none, none, none, none, rfl, rfl, rs, off, s0, rfl, by rw [show (mv st goal).moves.length = st.moves.length + 1 by simp [mv]]; simp only [List.map_cons, List.map_nil]; omega, fun n hn => by rw [hgoal]; exact runM_enough _ _ _ _ (Nat.le_refl _) hn⟩ ?_
  intro m σ M' ⟨A', zs, s', u3, u4, u5, u6, u7, u8, e1, e2, r, o, so, e3, e4, hr⟩
  subst e1
  rcases List.eq_nil_or_concat zs with rfl | ⟨zi, fz, rfl⟩
  · have hkk := r.kk
    (repeat decreasing_trivial_pre_omega)
    have hR := hr m (Nat.le_refl _)
    rw [show ([] : List (Fm × FA)).map (·.1) = [] from rfl, runM_nil] at hR
    exact hq A' M' s' none hR.symm e2 r.ma o.keep so (by omega) (by decide +kernel)
  · rw [List.concat_eq_append] at *
    obtain ⟨f, z⟩ := fz
    have hkk : M' k = some (.lst ((zi.map fun z => U.ref z.2.q) ++ [U.ref z.q])) := by rw [r.kk, List.map_append]; rfl
    have hnn : ¬ (zi.map fun z => U.ref z.2.q) ++ [U.ref z.q] = [] := by simp
    have hsl := @stack_len b s' (zi ++ [(f, z)])
    have hmz : (zi ++ [(f, z)]).map (·.1) = zi.map (·.1) ++ [f] := by simp
    have hml : s'.moves.length < 80000 := by omega
    have hsl2 : zi.length < 80000 := by rw [List.length_append, List.length_singleton] at hsl; omega
    obtain ⟨t1, t2, t3⟩ := r.top
    have hfq := t1.q
    unfold frF at hfq
    rw [hmz] at hr e3
    have mpos := @mu_pos b s' (zi.map (·.1)) f
    (repeat decreasing_trivial_pre_omega)
    refine x_lst hkk (atI_last _ _) ?_
    have fin : ∀ (A2 : MA) (M2 : Hm) (zs2 : List (Fm × FA)) (s2 : Mst) (v3 v4 v5 v6 v7 v8 : Option U), A2.p = A'.p → RS M2 A2 k zs2 b wd s2 → Off M A M2 A2 k zs2 → stepM b wd s' (zi.map (·.1)) f = .inl (s2, zs2.map (·.1)) →
        ∃ m', m' < m ∧ GW M A k b wd goal (goalM b wd st goal) (st.moves.length + 1 + mb b) m' [some (.ref A'.p), some (.str goal), some (.ref k), v3, v4, v5, v6, v7, v8] M2 := fun A2 M2 zs2 s2 v3 v4 v5 v6 v7 v8 g1 g2 g3 g4 => by
      have ms := mu_step g4
      refine ⟨mu b s2 (zs2.map (·.1)), by omega, A2, zs2, s2, v3, v4, v5, v6, v7, v8, by rw [g1], by rw [g1]; exact e2, g2, g3, ?_, rfl, by omega, run_next g4 (by rw [← e3]; exact hr)⟩
      rw [hmz] at so
      exact so.step hb hw g4
    have out : ∀ (A2 : MA) (M2 : Hm) (s2 : Mst) (ou : Out), A2.p = A'.p → MkAt M2 A2 b wd s2 → Off M A M2 A2 k [] → StOk b s2 [] → s2.moves.length ≤ s'.moves.length + 1 → stepM b wd s' (zi.map (·.1)) f = .inr (s2, ou) → okU (encO ou) = true → rt (encO ou) M2 := fun A2 M2 s2 ou g1 g2 g3 g4 g5 g6 g7 => by
      have hR := run_out g6 (by rw [← e3]; exact hr)
      exact hq A2 M2 s2 (some ou) hR (by rw [g1]; exact e2) g2 g3.keep g4 (by omega) g7
    have okf := (so.fms f (by rw [hmz]; simp)).rule
    have sd := so.drop
    have hrl : ((zi ++ [(f, z)]).map (·.1.rule)) = (zi.map (·.1) ++ [f]).map (·.rule) := by simp [List.map_map]
    cases hat : f.at_ with
    | done =>
      refine disp_done t1 hat ?_
      refine done_br hfin hb r o so hml (fun M2 v5 hf g1 g2 => ?_) (fun M2 ou hf g1 g2 => ?_)
      · (repeat decreasing_trivial_pre_omega)
        exact fin A' M2 zi _ _ _ _ _ _ _ rfl g1 g2 (by unfold stepM; simp only [hat, hf])
      · exact out A' M2 _ ou rfl g1 g2 (sd.mv0 okf) (by simp [mv]) (by unfold stepM; simp only [hat, hf]) (fault_okU hb hf okf (fun p hp => (so.fms f (by rw [hmz]; simp)).evs _ (layM_mem hp)) (fun p hp => (so.ownS p hp).2))
    | ask rr kd =>
      refine disp_ask t1 hat ?_
      refine ask_br hbg hb r o so hml hat hsl2 (fun M2 v6 v7 v8 hf g1 g2 => ?_) (fun M2 hf hin g1 g2 => ?_) (fun M2 bd2 z' v6 v7 v8 hf hin hb2 g1 g2 => ?_)
      · (repeat decreasing_trivial_pre_omega)
        exact fin A' M2 _ _ _ _ _ _ _ _ rfl g1 g2 (by unfold stepM; simp only [hat, if_pos hf]; simp)
      · rw [hrl] at hin ⊢
        exact out A' M2 _ _ rfl g1 g2 sd (by omega) (by unfold stepM; simp only [hat, if_neg hf, if_pos hin]) (stuck_okU fun s hs2 => by
          obtain ⟨g, hg, rfl⟩ := List.mem_map.mp (List.mem_of_mem_drop hs2)
          exact (so.fms g (by rw [hmz]; exact hg)).rule)
      · (repeat decreasing_trivial_pre_omega)
        rw [hrl] at hin
        exact fin A' M2 _ _ _ _ _ _ _ _ rfl g1 g2 (by unfold stepM; simp only [hat, if_neg hf, if_neg hin, hb2]; simp)
    | put fi c kd =>
      have hd : f.at_ ≠ .done := by rw [hat]; intro z2; cases z2
      have ha : ∀ r k, f.at_ ≠ .ask r k := fun r k => by rw [hat]; intro z2; cases z2
      refine disp_other t1 hd ha fun v4 => ?_
      refine other_br hst hb hw r o so hml hd ha (fun A2 M2 s2 g g0 g1 g2 g3 => ?_) (fun A2 M2 s2 fi' bs g0 g1 g2 g3 g4 => ?_)
      · (repeat decreasing_trivial_pre_omega)
        rcases stepM_act (b := b) (wd := wd) (st := s') (init := zi.map (·.1)) hd ha with ⟨q1, q2, q3, q4⟩ | ⟨q1, q2, q3, q4, _⟩
        · rw [g1] at q3; cases q3
          exact fin A2 M2 _ _ _ _ _ _ _ _ g0 g2 g3 (by rw [q4]; simp)
        · rw [g1] at q4; cases q4
      · rw [hat] at g2; cases g2
    | see fi bs =>
      have hd : f.at_ ≠ .done := by rw [hat]; intro z2; cases z2
      have ha : ∀ r k, f.at_ ≠ .ask r k := fun r k => by rw [hat]; intro z2; cases z2
      refine disp_other t1 hd ha fun v4 => ?_
      refine other_br hst hb hw r o so hml hd ha (fun A2 M2 s2 g g0 g1 g2 g3 => ?_) (fun A2 M2 s2 fi' bs' g0 g1 g2 g3 g4 => ?_)
      · (repeat decreasing_trivial_pre_omega)
        rcases stepM_act (b := b) (wd := wd) (st := s') (init := zi.map (·.1)) hd ha with ⟨q1, q2, q3, q4⟩ | ⟨q1, q2, q3, q4, _⟩
        · rw [g1] at q3; cases q3
          exact fin A2 M2 _ _ _ _ _ _ _ _ g0 g2 g3 (by rw [q4]; simp)
        · rw [g1] at q4; cases q4
      · rcases stepM_act (b := b) (wd := wd) (st := s') (init := zi.map (·.1)) hd ha with ⟨q1, q2, q3, q4⟩ | ⟨q1, q2, q3, q4, q5, q6, q7, q8⟩
        · rw [g1] at q3; cases q3
        · rw [g1] at q4; cases q4
          rw [hat] at g2 q5
          cases g2
          cases q5
          subst q7
          exact out A2 M2 _ _ g0 g3 g4 (sd.sn0 okf) (by simp [sn, mv]) q8 (by simp [encO, okU, U.ok]; decide +kernel)
end Pl

set_option maxHeartbeats 1000000
/-! the program's makings: goals, make, alone -/
namespace Pl
open PySem L2
def RunF (C : CE) (g : Nat) : Prop := ∀ (M : Hm) (A : MA) (b : Bk) (wd : List Int) (st : Mst) (goal : Str) (bd : Bd) (Q : QU), BkOk b → WdOk b wd → MkAt M A b wd st → StOk b st [] → b.bodyOf goal = some bd → st.moves.length + 1 + mb b < 80000 →
  (∀ A' M' st' ou, goalM b wd st goal = (st', ou) → A'.p = A.p → MkAt M' A' b wd st' → Keep A A' M M' → StOk b st' [] → st'.moves.length ≤ st.moves.length + 1 + mb b → okU (outO ou) = true → Q (optO ou) M') → C g [.ref A.p, .str goal] M Q
theorem goalsM_cons (b : Bk) (wd : List Int) (st : Mst) (g : Str) (gs : List Str) : goalsM b wd st (g :: gs) = if (kfind st.done g).isSome = true then goalsM b wd st gs else match goalM b wd st g with
    | (st', none) => goalsM b wd st' gs
    | (st', some o) => (st', some o) := rfl
theorem encO_ne (o : Out) : encO o ≠ .non := by cases o <;> simp [encO]
theorem rungoals_ok {C : CE} {fr : Nat} (hr : RunF C fr) {nx bk ct : SU → Hm → Prop} {rt : QU} {M : Hm} {A : MA} {b : Bk} {wd : List Int} {st : Mst} {gs : List Str} (hb : BkOk b) (hw : WdOk b wd) (h : MkAt M A b wd st) (hs : StOk b st []) (hg : ∀ g ∈ gs, g ∈ b.names) (hB : st.moves.length + gs.length * (1 + mb b) < 80000)
    (hq : ∀ A' M' st' ou, goalsM b wd st gs = (st', ou) → A'.p = A.p → MkAt M' A' b wd st' → Keep A A' M M' → StOk b st' [] → st'.moves.length < 80000 → okU (outO ou) = true → rt (outO ou) M') :
    wS C (B_run_goals fr) ⟨nx, rt, bk, ct⟩ (startU 4 [.ref A.p, .tup (gs.map U.str)]) M := by
  unfold B_run_goals
  (repeat decreasing_trivial_pre_omega)
  refine forL_by (enc := U.str) (fun don rest σ M' => ∃ A' s' u2 u3, σ = [some (.ref A.p), some (.tup (gs.map U.str)), u2, u3] ∧ A'.p = A.p ∧ MkAt M' A' b wd s' ∧ Keep A A' M M' ∧ StOk b s' [] ∧ s'.moves.length ≤ st.moves.length + don.length * (1 + mb b) ∧ goalsM b wd st gs = goalsM b wd s' rest) gs ⟨A, st, _, _, rfl, rfl, h, Keep.refl _ _, hs, by simp, rfl⟩ ?_ ?_
  · intro don x rest σ M' k e ⟨A', s', u2, u3, e1, e2, e3, e4, e5, e6, e7⟩ hk
    subst e1
    have hp := e3.p
    have hd := e3.d
    rw [e2] at hp
    unfold mkF at hp
    rw [goalsM_cons] at e7
    have hlen : don.length + rest.length + 1 = gs.length := by rw [← e]; simp; omega
    have hmul : (don.length + 1) * (1 + mb b) ≤ gs.length * (1 + mb b) := Nat.mul_le_mul_right _ (by omega)
    rw [Nat.succ_mul] at hmul
    (repeat decreasing_trivial_pre_omega)
    refine nin_dct hd rfl ?_
    rw [dU_find, Option.isSome_map]
    by_cases hdn : (kfind s'.done x).isSome = true
    · rw [if_pos hdn] at e7
      rw [hdn]
      refine i_iff rfl ?_
      (repeat decreasing_trivial_pre_omega)
      exact hk _ _ trivial ⟨A', s', _, _, rfl, e2, e3, e4, e5, by rw [List.length_append, List.length_singleton, Nat.succ_mul]; omega, e7⟩
    · rw [if_neg hdn] at e7
      rw [show (kfind s'.done x).isSome = false by simpa using hdn]
      refine i_ift rfl ?_
      obtain ⟨bd, hbd⟩ := bodyOf_some (hg x (by rw [← e]; simp))
      (repeat decreasing_trivial_pre_omega)
      rw [← e2]
      refine hr _ A' b wd s' x bd _ hb hw e3 e5 hbd (by omega) fun A2 M2 s2 ou g1 g2 g3 g4 g5 g6 g7 => ?_
      rw [g1] at e7
      cases ou with
      | none =>
        (repeat decreasing_trivial_pre_omega)
        refine hk _ _ trivial ⟨A2, s2, _, _, (by rw [e2]; rfl), g2.trans e2, g3, e4.trans g4, g5, by rw [List.length_append, List.length_singleton, Nat.succ_mul]; omega, e7⟩
      | some o =>
        have hne := encO_ne o
        unfold optO
        (repeat decreasing_trivial_pre_omega)
        exact hq A2 M2 s2 (some o) e7 (g2.trans e2) g3 (e4.trans g4) g5 (by omega) g7
  · intro σ M' ⟨A', s', u2, u3, e1, e2, e3, e4, e5, e6, e7⟩
    subst e1
    (repeat decreasing_trivial_pre_omega)
    exact hq A' M' s' none e7 e2 e3 e4 e5 (by omega) (by decide +kernel)
def GoalsF (C : CE) (g : Nat) : Prop := ∀ (M : Hm) (A : MA) (b : Bk) (wd : List Int) (st : Mst) (gs : List Str) (Q : QU), BkOk b → WdOk b wd → MkAt M A b wd st → StOk b st [] → (∀ g ∈ gs, g ∈ b.names) → st.moves.length + gs.length * (1 + mb b) < 80000 →
  (∀ A' M' st' ou, goalsM b wd st gs = (st', ou) → A'.p = A.p → MkAt M' A' b wd st' → Keep A A' M M' → StOk b st' [] → st'.moves.length < 80000 → okU (outO ou) = true → Q (outO ou) M') → C g [.ref A.p, .tup (gs.map U.str)] M Q
/-! ### what is told -/
def unS : U → Str
  | .str s => s
  | _ => ""
def sortS (l : List Str) : List Str := (sortU (l.map U.str)).map unS
theorem sortS_map (l : List Str) : (sortS l).map U.str = sortU (l.map U.str) := by
  unfold sortS
  rw [List.map_map]
  have h : ∀ x ∈ sortU (l.map U.str), (U.str ∘ unS) x = x := fun x hx => by
    have h2 : x ∈ l.map U.str := (List.mergeSort_perm _ _).mem_iff.mp hx
    obtain ⟨s, _, rfl⟩ := List.mem_map.mp h2
    rfl
  rw [List.map_congr_left h, List.map_id']
theorem sortS_mem {l : List Str} {s : Str} : s ∈ sortS l ↔ s ∈ l := by
  have h : U.str s ∈ (sortS l).map U.str ↔ U.str s ∈ l.map U.str := by rw [sortS_map]; exact (List.mergeSort_perm _ _).mem_iff
  rw [mem_strs, mem_strs] at h
  exact h
theorem sortS_len (l : List Str) : (sortS l).length = l.length := by
  unfold sortS
  rw [List.length_map]
  show (List.mergeSort _ _).length = _
  rw [List.length_mergeSort, List.length_map]
theorem sortOk_strs {l : List Str} (ho : ∀ s ∈ l, okS s = true) (hl : l.length ≤ LIM) : sortOk (l.map U.str) := by
  refine ⟨?_, ?_, ?_, by rw [List.length_map]; exact hl⟩
  · refine List.all_eq_true.mpr fun x hx => ?_
    rw [List.mem_map] at hx
    obtain ⟨s, hs, rfl⟩ := hx
    exact ho s hs
  · intro d hd d' hd'
    simp only [List.mem_map] at hd hd'
    obtain ⟨_, ⟨a, _, rfl⟩, rfl⟩ := hd
    obtain ⟨_, ⟨b, _, rfl⟩, rfl⟩ := hd'
    simp [pd, W.alike]
  · right
    intro d hd
    simp only [List.mem_map] at hd
    obtain ⟨_, ⟨a, _, rfl⟩, rfl⟩ := hd
    simp [pd]
def laidU (st : Mst) : U := .tup ((sortS (st.owners.map (·.1))).map fun f => .tup [.str f, .int ((kfind st.cont f).getD 0), .str ((kfind st.owners f).getD "")])
def tracesU (st : Mst) : U := .tup (st.order.map fun r => .tup [.str r, trU ((kfind st.done r).getD [])])
theorem kfind_of {α : Type} {l : List (Str × α)} {k : Str} (d : α) (h : k ∈ l.map (·.1)) : kfind l k = some ((kfind l k).getD d) := by
  have : (kfind l k).isSome = true := by rw [kfind_isSome]; exact decide_eq_true h
  obtain ⟨v, hv⟩ := Option.isSome_iff_exists.mp this
  rw [hv]; rfl
theorem dU_keys {α : Type} (e : α → U) (l : List (Str × α)) : (dU e l).map (·.1) = (l.map (·.1)).map U.str := by
  unfold dU
  rw [List.map_map, List.map_map]
  rfl
theorem laid_ok {C : CE} {nx bk ct : SU → Hm → Prop} {rt : QU} {M : Hm} {A : MA} {b : Bk} {wd : List Int} {st : Mst} (h : MkAt M A b wd st) (hs : StOk b st []) (hl : st.moves.length < 80000) (hq : ∀ M', Sub M M' → rt (laidU st) M') : wS C B_Making_laid_files ⟨nx, rt, bk, ct⟩ (startU 2 [.ref A.p]) M := by
  have hp := h.p
  have hw := h.w
  have hc := h.c
  have hol := hs.ownL
  unfold mkF at hp
  unfold B_Making_laid_files
  (repeat decreasing_trivial_pre_omega)
  refine f_sortD hw ?_ ?_
  · rw [dU_keys]
    refine sortOk_strs (fun s hs' => ?_) (by rw [List.length_map]; unfold LIM; omega)
    obtain ⟨p, hp', rfl⟩ := List.mem_map.mp hs'
    exact (hs.ownS p hp').1
  intro q hq0
  rw [dU_keys, ← sortS_map]
  (repeat decreasing_trivial_pre_omega)
  refine compL_by (enc := U.str) (fun don rest acc M' => M' = um M q (.lst ((sortS (st.owners.map (·.1))).map U.str)) ∧ acc = don.map fun f => .tup [.str f, .int ((kfind st.cont f).getD 0), .str ((kfind st.owners f).getD "")]) (sortS (st.owners.map (·.1))) ⟨rfl, rfl⟩ ?_ ?_
  · intro don x rest acc M' k e ⟨e1, e2⟩ hk
    subst e1 e2
    have hx : x ∈ st.owners.map (·.1) := sortS_mem.mp (by rw [← e]; simp)
    have hx2 : x ∈ st.cont.map (·.1) := by rw [hs.agree]; exact hx
    (repeat decreasing_trivial_pre_omega)
    refine x_dct (um_old hc hq0) rfl (by rw [dU_find, kfind_of 0 hx2]; rfl) ?_
    (repeat decreasing_trivial_pre_omega)
    refine x_dct (um_old hw hq0) rfl (by rw [dU_find, kfind_of ("" : Str) hx]; rfl) ?_
    (repeat decreasing_trivial_pre_omega)
    refine hk _ _ um_same (fun _ => ?_) ⟨rfl, by simp⟩
    have h1 : don.length + rest.length + 1 = (sortS (st.owners.map (·.1))).length := by rw [← e]; simp; omega
    rw [sortS_len, List.length_map] at h1
    rw [List.length_map]
    unfold LIM
    omega
  · intro acc M' ⟨e1, e2⟩
    subst e1 e2
    intro r hr0
    (repeat decreasing_trivial_pre_omega)
    exact hq _ (sub_um (sub_um (Sub.refl _) hq0) (um_none hr0))
theorem traces_ok {C : CE} {nx bk ct : SU → Hm → Prop} {rt : QU} {M : Hm} {A : MA} {b : Bk} {wd : List Int} {st : Mst} (h : MkAt M A b wd st) (hs : StOk b st []) (hl : st.moves.length < 80000) (hq : ∀ M', Sub M M' → rt (tracesU st) M') : wS C B_Making_done_traces ⟨nx, rt, bk, ct⟩ (startU 2 [.ref A.p]) M := by
  have hp := h.p
  have hr := h.r
  have hd := h.d
  have hol := hs.ordL
  unfold mkF at hp
  unfold B_Making_done_traces
  (repeat decreasing_trivial_pre_omega)
  refine compL_by (enc := U.str) (fun don rest acc M' => M' = M ∧ acc = don.map fun r => .tup [.str r, trU ((kfind st.done r).getD [])]) st.order ⟨rfl, rfl⟩ ?_ ?_
  · intro don x rest acc M' k e ⟨e1, e2⟩ hk
    subst e1 e2
    have hx := (hs.ordS x (by rw [← e]; simp)).2
    rw [kfind_isSome] at hx
    (repeat decreasing_trivial_pre_omega)
    refine x_dct hd rfl (by rw [dU_find, kfind_of [] (of_decide_eq_true hx)]; rfl) ?_
    (repeat decreasing_trivial_pre_omega)
    refine hk _ _ hr (fun _ => ?_) ⟨rfl, by simp⟩
    have h1 : don.length + rest.length + 1 = st.order.length := by rw [← e]; simp; omega
    rw [List.length_map]
    unfold LIM
    omega
  · intro acc M' ⟨e1, e2⟩
    subst e1 e2
    intro r hr0
    (repeat decreasing_trivial_pre_omega)
    exact hq _ (sub_um (Sub.refl _) hr0)
end Pl

set_option maxHeartbeats 1000000
/-! the program's makings: make, alone -/
namespace Pl
open PySem L2
theorem step_keeps {b : Bk} {wd : List Int} {st s1 : Mst} {init stk : List Fm} {f : Fm} (h : stepM b wd st init f = .inl (s1, stk)) : (∀ r, (kfind st.done r).isSome = true → (kfind s1.done r).isSome = true) ∧ ∀ g ∈ init ++ [f], (∃ g' ∈ stk, g'.rule = g.rule) ∨ (kfind s1.done g.rule).isSome = true := by
  have adv : ∀ {s1 : Mst} {k : Bd} {es : List Ev}, s1.done = st.done → (∀ r, (kfind st.done r).isSome = true → (kfind s1.done r).isSome = true) ∧ ∀ g ∈ init ++ [f], (∃ g' ∈ init ++ [(⟨f.rule, k, es⟩ : Fm)], g'.rule = g.rule) ∨ (kfind s1.done g.rule).isSome = true := fun {s1 k es} e => by
    refine ⟨fun r h => by rw [e]; exact h, fun g hg => .inl ?_⟩
    rcases List.mem_append.mp hg with hg | hg
    · exact ⟨g, List.mem_append_left _ hg, rfl⟩
    · rw [List.mem_singleton] at hg; subst hg; exact ⟨_, List.mem_append_right _ (List.mem_singleton.mpr rfl), rfl⟩
  unfold stepM at h
  split at h
  · split at h
    · cases h
    · cases h
      have e : (finM (mv st f.rule) f.rule f.evs).done = kput st.done f.rule f.evs := rfl
      refine ⟨fun r h => by rw [e, kput_some]; exact decide_eq_true (.inr h), fun g hg => ?_⟩
      rcases List.mem_append.mp hg with hg | hg
      · exact .inl ⟨g, hg, rfl⟩
      · rw [List.mem_singleton] at hg; subst hg
        right
        rw [e, kput_some]; exact decide_eq_true (.inl rfl)
  · split at h
    · cases h; exact adv rfl
    · split at h
      · cases h
      · split at h
        · cases h
          exact ⟨fun r h => h, fun g hg => .inl ⟨g, List.mem_append_left _ hg, rfl⟩⟩
        · cases h
  · cases h; exact adv rfl
  · split at h
    · cases h; exact adv rfl
    · split at h
      · cases h
      · cases h; exact adv rfl
theorem runM_done {b : Bk} {wd : List Int} : ∀ (n : Nat) (st st' : Mst) (stack : List Fm), mu b st stack ≤ n → runM b wd n st stack = (st', none) → (∀ r, (kfind st.done r).isSome = true → (kfind st'.done r).isSome = true) ∧ ∀ f ∈ stack, (kfind st'.done f.rule).isSome = true := by
  intro n
  induction n with
  | zero =>
    intro st st' stack h e
    rcases List.eq_nil_or_concat stack with rfl | ⟨init, f, rfl⟩
    · rw [runM_nil] at e
      cases e
      exact ⟨fun _ h => h, by simp⟩
    · have := @mu_pos b st init f; rw [List.concat_eq_append] at h; omega
  | succ n ih =>
    intro st st' stack h e
    rcases List.eq_nil_or_concat stack with rfl | ⟨init, f, rfl⟩
    · rw [runM_nil] at e
      cases e
      exact ⟨fun _ h => h, by simp⟩
    · rw [List.concat_eq_append] at h e ⊢
      rw [runM_snoc] at e
      cases hs : stepM b wd st init f with
      | inr x => rw [hs] at e; cases e
      | inl x =>
        obtain ⟨s1, stk⟩ := x
        rw [hs] at e
        have h1 := (mu_step hs).1
        obtain ⟨g1, g2⟩ := ih s1 st' stk (by omega) e
        obtain ⟨k1, k2⟩ := step_keeps hs
        refine ⟨fun r h => g1 r (k1 r h), fun g hg => ?_⟩
        rcases k2 g hg with ⟨g', hg', e2⟩ | h2
        · rw [← e2]; exact g2 g' hg'
        · exact g1 _ h2
theorem goalM_done {b : Bk} {wd : List Int} {st st' : Mst} {g : Str} (hg : g ∈ b.names) (e : goalM b wd st g = (st', none)) : (∀ r, (kfind st.done r).isSome = true → (kfind st'.done r).isSome = true) ∧ (kfind st'.done g).isSome = true := by
  obtain ⟨bd, hb⟩ := bodyOf_some hg
  unfold goalM at e
  simp only [hb] at e
  obtain ⟨h1, h2⟩ := runM_done _ _ _ _ (Nat.le_refl _) e
  exact ⟨h1, h2 ⟨g, bd, []⟩ (by simp)⟩
theorem goalsM_done {b : Bk} {wd : List Int} : ∀ {gs : List Str} {st st' : Mst}, (∀ g ∈ gs, g ∈ b.names) → goalsM b wd st gs = (st', none) → (∀ r, (kfind st.done r).isSome = true → (kfind st'.done r).isSome = true) ∧ ∀ g ∈ gs, (kfind st'.done g).isSome = true
  | [], st, st', _, e => by cases e; exact ⟨fun _ h => h, by simp⟩
  | g :: gs, st, st', hg, e => by
    rw [goalsM_cons] at e
    by_cases hd : (kfind st.done g).isSome = true
    · rw [if_pos hd] at e
      obtain ⟨h1, h2⟩ := goalsM_done (fun x hx => hg x (List.mem_cons_of_mem _ hx)) e
      exact ⟨h1, fun x hx => by rcases List.mem_cons.mp hx with rfl | hx; exact h1 _ hd; exact h2 x hx⟩
    · rw [if_neg hd] at e
      cases h : goalM b wd st g with
      | mk s1 ou =>
        rw [h] at e
        cases ou with
        | some o => cases e
        | none =>
          obtain ⟨k1, k2⟩ := goalM_done (hg g List.mem_cons_self) h
          obtain ⟨h1, h2⟩ := goalsM_done (fun x hx => hg x (List.mem_cons_of_mem _ hx)) e
          exact ⟨fun r hr => h1 r (k1 r hr), fun x hx => by rcases List.mem_cons.mp hx with rfl | hx; exact h1 _ k2; exact h2 x hx⟩
theorem st0 (b : Bk) : StOk b {} [] := ⟨fun _ z => (by cases z), fun _ z => (by cases z), Nat.le_refl _, Nat.le_refl _, Nat.le_refl _, Nat.le_refl _, Nat.le_refl _, fun _ z => (by cases z), fun _ z => (by cases z), fun _ z => (by cases z), fun _ z => (by cases z), rfl⟩
def mkF8 (b : Bk) (wd : List Int) (d r w c s m : Addr) : List (Str × U) := [("rulebook", encBk b), ("around", .tup (wd.map U.int)), ("done", .ref d), ("order", .ref r), ("owners", .ref w), ("contents", .ref c), ("seen", .ref s), ("moves", .ref m)]
theorem making_init {C : CE} {nx bk ct : SU → Hm → Prop} {rt : QU} {M : Hm} {p : Addr} {b : Bk} {wd : List Int} (hm : M p = none)
    (hq : ∀ σ A M', A.p = p → Sub M M' → MkAt M' A b wd {} → (∀ a ∈ A.all, M a = none) → nx σ M') : wS C B_Making_init ⟨nx, rt, bk, ct⟩ (startU 3 [.ref p, encBk b, .tup (wd.map U.int)]) (um M p (.obj "Making" [])) := by
  have h0 : um M p (.obj "Making" []) p = some (.obj "Making" []) := um_same
  unfold B_Making_init
  (repeat decreasing_trivial_pre_omega)
  rw [um_um, show fput "rulebook" (encBk b) [] = [(("rulebook" : Str), encBk b)] from rfl]
  (repeat decreasing_trivial_pre_omega)
  rw [um_um, show fput "around" (U.tup (wd.map U.int)) [(("rulebook" : Str), encBk b)] = [(("rulebook" : Str), encBk b), ("around", .tup (wd.map U.int))] from rfl]
  (repeat decreasing_trivial_pre_omega)
  intro d hd
  have nd := um_noneN hd
  have d0 := um_none hd
  (repeat decreasing_trivial_pre_omega)
  rw [um_comm nd, um_um, show fput "done" (U.ref d) [(("rulebook" : Str), encBk b), ("around", .tup (wd.map U.int))] = [(("rulebook" : Str), encBk b), ("around", .tup (wd.map U.int)), ("done", .ref d)] from rfl]
  (repeat decreasing_trivial_pre_omega)
  intro r hr
  have nr := um_noneN hr
  have r1 := um_none hr
  have nrd := um_noneN r1
  have r0 := um_none r1
  (repeat decreasing_trivial_pre_omega)
  rw [um_comm nrd, um_comm nd, um_um, show fput "order" (U.ref r) [(("rulebook" : Str), encBk b), ("around", .tup (wd.map U.int)), ("done", .ref d)] = [(("rulebook" : Str), encBk b), ("around", .tup (wd.map U.int)), ("done", .ref d), ("order", .ref r)] from rfl]
  (repeat decreasing_trivial_pre_omega)
  intro w hw
  have nw := um_noneN hw
  have w1 := um_none hw
  have nwr := um_noneN w1
  have w2 := um_none w1
  have nwd := um_noneN w2
  have w0 := um_none w2
  (repeat decreasing_trivial_pre_omega)
  rw [um_comm nwd, um_comm nrd, um_comm nd, um_um, show fput "owners" (U.ref w) [(("rulebook" : Str), encBk b), ("around", .tup (wd.map U.int)), ("done", .ref d), ("order", .ref r)] = [(("rulebook" : Str), encBk b), ("around", .tup (wd.map U.int)), ("done", .ref d), ("order", .ref r), ("owners", .ref w)] from rfl]
  (repeat decreasing_trivial_pre_omega)
  intro c hc
  have nc := um_noneN hc
  have c1 := um_none hc
  have ncw := um_noneN c1
  have c2 := um_none c1
  have ncr := um_noneN c2
  have c3 := um_none c2
  have ncd := um_noneN c3
  have c0 := um_none c3
  (repeat decreasing_trivial_pre_omega)
  rw [um_comm ncd, um_comm nwd, um_comm nrd, um_comm nd, um_um, show fput "contents" (U.ref c) [(("rulebook" : Str), encBk b), ("around", .tup (wd.map U.int)), ("done", .ref d), ("order", .ref r), ("owners", .ref w)] = [(("rulebook" : Str), encBk b), ("around", .tup (wd.map U.int)), ("done", .ref d), ("order", .ref r), ("owners", .ref w), ("contents", .ref c)] from rfl]
  (repeat decreasing_trivial_pre_omega)
  intro s hs
  have ns := um_noneN hs
  have s1 := um_none hs
  have nsc := um_noneN s1
  have s2 := um_none s1
  have nsw := um_noneN s2
  have s3 := um_none s2
  have nsr := um_noneN s3
  have s4 := um_none s3
  have nsd := um_noneN s4
  have s0 := um_none s4
  (repeat decreasing_trivial_pre_omega)
  rw [um_comm nsd, um_comm ncd, um_comm nwd, um_comm nrd, um_comm nd, um_um, show fput "seen" (U.ref s) [(("rulebook" : Str), encBk b), ("around", .tup (wd.map U.int)), ("done", .ref d), ("order", .ref r), ("owners", .ref w), ("contents", .ref c)] = [(("rulebook" : Str), encBk b), ("around", .tup (wd.map U.int)), ("done", .ref d), ("order", .ref r), ("owners", .ref w), ("contents", .ref c), ("seen", .ref s)] from rfl]
  (repeat decreasing_trivial_pre_omega)
  intro m hm2
  have nm := um_noneN hm2
  have m1 := um_none hm2
  have nms := um_noneN m1
  have m2 := um_none m1
  have nmc := um_noneN m2
  have m3 := um_none m2
  have nmw := um_noneN m3
  have m4 := um_none m3
  have nmr := um_noneN m4
  have m5 := um_none m4
  have nmd := um_noneN m5
  have m0 := um_none m5
  (repeat decreasing_trivial_pre_omega)
  rw [um_comm nmd, um_comm nsd, um_comm ncd, um_comm nwd, um_comm nrd, um_comm nd, um_um, show fput "moves" (U.ref m) [(("rulebook" : Str), encBk b), ("around", .tup (wd.map U.int)), ("done", .ref d), ("order", .ref r), ("owners", .ref w), ("contents", .ref c), ("seen", .ref s)] = mkF8 b wd d r w c s m from rfl]
  refine hq _ ⟨p, d, r, w, c, s, m, []⟩ _ rfl ?_ ?_ ?_
  · intro a x h
    have z1 := ne_of_old h hm
    have z2 := ne_of_old h d0
    have z3 := ne_of_old h r0
    have z4 := ne_of_old h w0
    have z5 := ne_of_old h c0
    have z6 := ne_of_old h s0
    have z7 := ne_of_old h m0
    repeat refine um_oth (by assumption) ?_
    exact h
  · refine ⟨?_, ?_, ?_, ?_, ?_, ?_, ?_, ?_, fun x hx => (by cases hx), fun x hx => (by cases hx), Nat.le_refl _, List.nodup_nil⟩
    · simp only [MA.all, MA.fix, List.map_nil, List.append_nil, List.nodup_cons, List.mem_cons, List.not_mem_nil, or_false, not_or, List.nodup_nil, and_true, not_false_eq_true]
      exact ⟨⟨nd.symm, nrd.symm, nwd.symm, ncd.symm, nsd.symm, nmd.symm⟩, ⟨nr.symm, nwr.symm, ncr.symm, nsr.symm, nmr.symm⟩, ⟨nw.symm, ncw.symm, nsw.symm, nmw.symm⟩, ⟨nc.symm, nsc.symm, nmc.symm⟩, ⟨ns.symm, nms.symm⟩, nm.symm⟩
    · show um _ _ _ p = some (.obj "Making" (mkF8 b wd d r w c s m))
      repeat (first | exact um_same | refine um_oth (by first | assumption | exact Ne.symm (by assumption)) ?_)
    · show um _ _ _ d = some (.dct false false [])
      repeat (first | exact um_same | refine um_oth (by first | assumption | exact Ne.symm (by assumption)) ?_)
    · show um _ _ _ r = some (.lst [])
      repeat (first | exact um_same | refine um_oth (by first | assumption | exact Ne.symm (by assumption)) ?_)
    · show um _ _ _ w = some (.dct false false [])
      repeat (first | exact um_same | refine um_oth (by first | assumption | exact Ne.symm (by assumption)) ?_)
    · show um _ _ _ c = some (.dct false false [])
      repeat (first | exact um_same | refine um_oth (by first | assumption | exact Ne.symm (by assumption)) ?_)
    · show um _ _ _ s = some (.dct false false [])
      repeat (first | exact um_same | refine um_oth (by first | assumption | exact Ne.symm (by assumption)) ?_)
    · show um _ _ _ m = some (.lst [])
      repeat (first | exact um_same | refine um_oth (by first | assumption | exact Ne.symm (by assumption)) ?_)
  · intro a ha
    simp only [MA.all, MA.fix, List.map_nil, List.append_nil, List.mem_cons, List.not_mem_nil, or_false] at ha
    rcases ha with rfl | rfl | rfl | rfl | rfl | rfl | rfl <;> assumption
def MakF (C : CE) (g : Nat) : Prop := ∀ (M : Hm) (p : Addr) (b : Bk) (wd : List Int) (Q : QU), M p = none → (∀ A M', A.p = p → Sub M M' → MkAt M' A b wd {} → (∀ a ∈ A.all, M a = none) → Q .non M') → C g [.ref p, encBk b, .tup (wd.map U.int)] (um M p (.obj "Making" [])) Q
def LaidF (C : CE) (g : Nat) : Prop := ∀ (M : Hm) (A : MA) (b : Bk) (wd : List Int) (st : Mst) (Q : QU), MkAt M A b wd st → StOk b st [] → st.moves.length < 80000 → (∀ M', Sub M M' → Q (laidU st) M') → C g [.ref A.p] M Q
def TracF (C : CE) (g : Nat) : Prop := ∀ (M : Hm) (A : MA) (b : Bk) (wd : List Int) (st : Mst) (Q : QU), MkAt M A b wd st → StOk b st [] → st.moves.length < 80000 → (∀ M', Sub M M' → Q (tracesU st) M') → C g [.ref A.p] M Q
def makeU (b : Bk) (wd : List Int) (gs : List Str) : U := .tup [outO (goalsM b wd {} gs).2, laidU (goalsM b wd {} gs).1, tracesU (goalsM b wd {} gs).1, .tup ((goalsM b wd {} gs).1.moves.map U.str)]
theorem makepart_ok {C : CE} {ft fl fg fm : Nat} (ht : TracF C ft) (hl : LaidF C fl) (hg : GoalsF C fg) (hm : MakF C fm) {nx bk ct : SU → Hm → Prop} {rt : QU} {M : Hm} {b : Bk} {wd : List Int} {gs : List Str} (hb : BkOk b) (hw : WdOk b wd) (hgs : ∀ g ∈ gs, g ∈ b.names) (hB : gs.length * (1 + mb b) < 80000)
    (hq : ∀ M', Sub M M' → StOk b (goalsM b wd {} gs).1 [] → okU (outO (goalsM b wd {} gs).2) = true → rt (makeU b wd gs) M') : wS C (B_make_partial ft fl fg fm) ⟨nx, rt, bk, ct⟩ (startU 5 [encBk b, .tup (wd.map U.int), .tup (gs.map U.str)]) M := by
  unfold B_make_partial
  (repeat decreasing_trivial_pre_omega)
  intro p hp
  refine hm _ _ _ _ _ hp fun A M1 e1 s1 mk fr => ⟨rfl, ?_⟩
  subst e1
  (repeat decreasing_trivial_pre_omega)
  refine hg _ A b wd {} gs _ hb hw mk (st0 b) hgs (by simpa using hB) fun A2 M2 st ou g1 g2 g3 g4 g5 g6 g7 => ?_
  have s2 : Sub M M2 := fun a x e => g4.old a x (fun z => by rw [fr a z] at e; cases e) (s1 a x e)
  rw [g1] at hq
  have hmk : makeU b wd gs = .tup [outO ou, laidU st, tracesU st, .tup (st.moves.map U.str)] := by unfold makeU; rw [g1]
  rw [hmk] at hq
  have hp2 := g3.p
  rw [g2] at hp2
  (repeat decreasing_trivial_pre_omega)
  rw [← g2]
  refine hl _ A2 b wd st _ g3 g5 g6 fun M3 s3 => ?_
  have g3' := g3.sub s3
  have hp3 := g3'.p
  (repeat decreasing_trivial_pre_omega)
  refine ht _ A2 b wd st _ g3' g5 g6 fun M4 s4 => ?_
  have g4' := g3'.sub s4
  have hp4 := g4'.p
  have hm4 := g4'.m
  unfold mkF at hp4
  (repeat decreasing_trivial_pre_omega)
  exact hq _ ((s2.trans s3).trans s4) g5 g7
def MPartF (C : CE) (g : Nat) : Prop := ∀ (M : Hm) (b : Bk) (wd : List Int) (gs : List Str) (Q : QU), BkOk b → WdOk b wd → (∀ g ∈ gs, g ∈ b.names) → gs.length * (1 + mb b) < 80000 →
  (∀ M', Sub M M' → StOk b (goalsM b wd {} gs).1 [] → okU (outO (goalsM b wd {} gs).2) = true → Q (makeU b wd gs) M') → C g [encBk b, .tup (wd.map U.int), .tup (gs.map U.str)] M Q
def aloneV (st : Mst) (ou : Option Out) (r : Str) : U := match ou with
  | none => .tup [.tup [.str "done"], trU ((kfind st.done r).getD [])]
  | some o => .tup [encO o, .tup []]
def aloneU (b : Bk) (wd : List Int) (r : Str) : U := aloneV (goalsM b wd {} [r]).1 (goalsM b wd {} [r]).2 r
theorem outO_ne (o : Out) : encO o ≠ .tup [.str "done"] := by
  cases o with
  | broken k f r o => simp [encO]
  | stuck l => simp [encO]
  | looks i => simp [encO]
theorem alonepart_ok {C : CE} {fg fm : Nat} (hg : GoalsF C fg) (hm : MakF C fm) {nx bk ct : SU → Hm → Prop} {rt : QU} {M : Hm} {b : Bk} {wd : List Int} {r : Str} (hb : BkOk b) (hw : WdOk b wd) (hr : r ∈ b.names) (hB : 1 + mb b < 80000)
    (hq : ∀ M', Sub M M' → StOk b (goalsM b wd {} [r]).1 [] → okU (outO (goalsM b wd {} [r]).2) = true → rt (aloneU b wd r) M') : wS C (B_alone_partial fg fm) ⟨nx, rt, bk, ct⟩ (startU 5 [encBk b, .tup (wd.map U.int), .str r]) M := by
  unfold B_alone_partial
  (repeat decreasing_trivial_pre_omega)
  intro p hp
  refine hm _ _ _ _ _ hp fun A M1 e1 s1 mk fr => ⟨rfl, ?_⟩
  subst e1
  (repeat decreasing_trivial_pre_omega)
  refine hg _ A b wd {} [r] _ hb hw mk (st0 b) (by simpa using hr) (by simpa using hB) fun A2 M2 st ou g1 g2 g3 g4 g5 g6 g7 => ?_
  have s2 : Sub M M2 := fun a x e => g4.old a x (fun z => by rw [fr a z] at e; cases e) (s1 a x e)
  have hau : aloneU b wd r = aloneV st ou r := by unfold aloneU; rw [g1]
  have hq2 : rt (aloneU b wd r) M2 := hq M2 s2 (by rw [g1]; exact g5) (by rw [g1]; exact g7)
  rw [hau] at hq2
  have hp2 := g3.p
  have hd2 := g3.d
  rw [g2] at hp2
  unfold mkF at hp2
  (repeat decreasing_trivial_pre_omega)
  cases ou with
  | none =>
    have hdone := (goalsM_done (by simpa using hr) g1).2 r (by simp)
    rw [kfind_isSome] at hdone
    show eqW (.tup [.str "done"]) (.tup [.str "done"]) _ _
    refine eq_tup (by decide +kernel) (by decide +kernel) ?_
    (repeat decreasing_trivial_pre_omega)
    refine x_dct hd2 rfl (by rw [dU_find, kfind_of [] (of_decide_eq_true hdone)]; rfl) ?_
    (repeat decreasing_trivial_pre_omega)
    exact hq2
  | some o =>
    have hne := outO_ne o
    have e2 : ∃ l, encO o = .tup l := by cases o <;> exact ⟨_, rfl⟩
    obtain ⟨l, el⟩ := e2
    show eqW (encO o) (.tup [.str "done"]) _ _
    have g7' : okU (encO o) = true := g7
    rw [el] at g7' hne ⊢
    refine eq_tup g7' (by decide +kernel) ?_
    (repeat decreasing_trivial_pre_omega)
    have hq3 : rt (.tup [encO o, .tup []]) M2 := hq2
    rw [el] at hq3
    show rt (.tup [encO o, .tup []]) M2
    rw [el]
    exact hq3
def AlonF (C : CE) (g : Nat) : Prop := ∀ (M : Hm) (b : Bk) (wd : List Int) (r : Str) (Q : QU), BkOk b → WdOk b wd → r ∈ b.names → 1 + mb b < 80000 →
  (∀ M', Sub M M' → StOk b (goalsM b wd {} [r]).1 [] → okU (outO (goalsM b wd {} [r]).2) = true → Q (aloneU b wd r) M') → C g [encBk b, .tup (wd.map U.int), .str r] M Q
end Pl

set_option maxHeartbeats 1000000
/-! the laws' own makings: where they lie -/
namespace Pl
open PySem L2
/-- _law_body_of: book, rule, row -/
def B_law_body_of : S := (.seq (.for_ (.one 2) (.iSeq (.ix (.var 0) (.int 2))) (.seq (.ifs (.cmp .eq (.ix (.var 2) (.int 0)) (.var 1)) (.seq (.ret (.ix (.var 2) (.int 1))) .skip) .skip) .skip)) (.seq (.ret .non) .skip))
/-- _law_seen: book, world, st, top, file, row -/
def B_law_seen : S := (.seq (.ifs (.cmp .isin (.var 4) (.ix (.var 3) (.int 3))) (.seq (.ret (.ix (.ix (.var 3) (.int 3)) (.var 4))) .skip) .skip) (.seq (.asg 5 (.setdef (.ix (.var 2) (.int 3)) (.var 4) (.lst .nil))) (.seq (.expr (.mth .append (.var 5) (.cons (.ix (.var 3) (.int 0)) .nil))) (.seq (.ifs (.cmp .isin (.var 4) (.ix (.var 0) (.int 1))) (.seq (.ret (.ix (.var 1) (.tidx (.ix (.var 0) (.int 1)) (.var 4)))) .skip) .skip) (.seq (.ret (.dget (.ix (.var 2) (.int 1)) (.var 4) (.neg (.int 1)))) .skip)))))
/-- _law_broken: book, st, rule, trace, pair, row -/
def B_law_broken (law_lay : Nat) : S := (.seq (.for_ (.one 4) (.iSeq (.call law_lay (.cons (.var 3) .nil))) (.seq (.ifs (.cmp .isin (.ix (.var 4) (.int 0)) (.ix (.var 0) (.int 1))) (.seq (.ret (.tup (.cons (.str "broken") (.cons (.str "source") (.cons (.ix (.var 4) (.int 0)) (.cons (.var 2) (.cons (.str "") .nil))))))) .skip) .skip) (.seq (.ifs (.cmp .isin (.ix (.var 4) (.int 0)) (.ix (.var 1) (.int 2))) (.seq (.ret (.tup (.cons (.str "broken") (.cons (.str "twice") (.cons (.ix (.var 4) (.int 0)) (.cons (.var 2) (.cons (.ix (.ix (.var 1) (.int 2)) (.ix (.var 4) (.int 0))) .nil))))))) .skip) .skip) (.seq (.for_ (.one 5) (.iSeq (.ix (.var 0) (.int 2))) (.seq (.ifs (.ands (.cons (.cmp .ne (.ix (.var 5) (.int 0)) (.var 2)) (.cons (.cmp .isin (.ix (.var 5) (.int 0)) (.dget (.ix (.var 1) (.int 3)) (.ix (.var 4) (.int 0)) (.lst .nil))) .nil))) (.seq (.ret (.tup (.cons (.str "broken") (.cons (.str "late") (.cons (.ix (.var 4) (.int 0)) (.cons (.var 2) (.cons (.ix (.var 5) (.int 0)) .nil))))))) .skip) .skip) .skip)) .skip)))) (.seq (.ret .non) .skip))
/-- _law_lay_down: book, st, rule, trace, broken, pair -/
def B_law_lay_down (law_lay : Nat) (law_broken : Nat) : S := (.seq (.asg 4 (.call law_broken (.cons (.var 0) (.cons (.var 1) (.cons (.var 2) (.cons (.var 3) .nil)))))) (.seq (.ifs (.isN (.var 4)) (.seq (.for_ (.one 5) (.iSeq (.call law_lay (.cons (.var 3) .nil))) (.seq (.setIx (.ix (.var 1) (.int 1)) (.ix (.var 5) (.int 0)) (.ix (.var 5) (.int 1))) (.seq (.setIx (.ix (.var 1) (.int 2)) (.ix (.var 5) (.int 0)) (.var 2)) .skip))) (.seq (.setIx (.ix (.var 1) (.int 0)) (.var 2) (.var 3)) (.seq (.expr (.mth .append (.ix (.var 1) (.int 4)) (.cons (.var 2) .nil))) .skip))) .skip) (.seq (.ret (.var 4)) .skip)))
/-- _law_make_goal: book, world, st, goal, stack, turn, top, node, under, row, broken, content -/
def B_law_make_goal (law_lay_down : Nat) (law_seen : Nat) (law_body_of : Nat) : S := (.seq (.asg 4 (.lst (.cons (.lst (.cons (.var 3) (.cons (.call law_body_of (.cons (.var 0) (.cons (.var 3) .nil))) (.cons (.lst .nil) (.cons (.dnew false) .nil))))) .nil))) (.seq (.expr (.mth .append (.ix (.var 2) (.int 5)) (.cons (.var 3) .nil))) (.seq (.for_ (.one 5) (.iRange (.int 600)) (.seq (.ifs (.not (.var 4)) (.seq .brk .skip) .skip) (.seq (.asg 6 (.ix (.var 4) (.neg (.int 1)))) (.seq (.asg 7 (.ix (.var 6) (.int 1))) (.seq (.ifs (.ands (.cons (.cmp .eq (.ix (.var 7) (.int 0)) (.str "ask")) (.cons (.cmp .notin (.ix (.var 7) (.int 1)) (.ix (.var 2) (.int 0))) .nil))) (.seq (.asg 8 (.comp [("row", 9)] (.one 9) (.iSeq (.var 4)) .nil (.ix (.var 9) (.int 0)))) (.seq (.ifs (.cmp .isin (.ix (.var 7) (.int 1)) (.var 8)) (.seq (.ret (.tup (.cons (.str "stuck") (.cons (.blt .tuple (.cons (.slice (.var 8) (.mth .index (.var 8) (.cons (.ix (.var 7) (.int 1)) .nil)) .nil) .nil)) .nil)))) .skip) .skip) (.seq (.expr (.mth .append (.var 4) (.cons (.lst (.cons (.ix (.var 7) (.int 1)) (.cons (.call law_body_of (.cons (.var 0) (.cons (.ix (.var 7) (.int 1)) .nil))) (.cons (.lst .nil) (.cons (.dnew false) .nil))))) .nil))) (.seq (.expr (.mth .append (.ix (.var 2) (.int 5)) (.cons (.ix (.var 7) (.int 1)) .nil))) (.seq .cnt .skip))))) .skip) (.seq (.expr (.mth .append (.ix (.var 2) (.int 5)) (.cons (.ix (.var 6) (.int 0)) .nil))) (.seq (.ifs (.cmp .eq (.ix (.var 7) (.int 0)) (.str "done")) (.seq (.asg 10 (.call law_lay_down (.cons (.var 0) (.cons (.var 2) (.cons (.ix (.var 6) (.int 0)) (.cons (.blt .tuple (.cons (.ix (.var 6) (.int 2)) .nil)) .nil)))))) (.seq (.ifs (.notN (.var 10)) (.seq (.ret (.var 10)) .skip) .skip) (.seq (.expr (.mth .pop (.var 4) .nil)) .skip))) (.seq (.ifs (.cmp .eq (.ix (.var 7) (.int 0)) (.str "ask")) (.seq (.expr (.mth .append (.ix (.var 6) (.int 2)) (.cons (.tup (.cons (.str "ask") (.cons (.ix (.var 7) (.int 1)) .nil))) .nil))) (.seq (.setIx (.var 6) (.int 1) (.ix (.var 7) (.int 2))) .skip)) (.seq (.ifs (.cmp .eq (.ix (.var 7) (.int 0)) (.str "put")) (.seq (.setIx (.ix (.var 6) (.int 3)) (.ix (.var 7) (.int 1)) (.ix (.var 7) (.int 2))) (.seq (.expr (.mth .append (.ix (.var 6) (.int 2)) (.cons (.tup (.cons (.str "put") (.cons (.ix (.var 7) (.int 1)) (.cons (.ix (.var 7) (.int 2)) .nil)))) .nil))) (.seq (.setIx (.var 6) (.int 1) (.ix (.var 7) (.int 3))) .skip))) (.seq (.asg 11 (.call law_seen (.cons (.var 0) (.cons (.var 1) (.cons (.var 2) (.cons (.var 6) (.cons (.ix (.var 7) (.int 1)) .nil))))))) (.seq (.ifs (.cmp .eq (.var 11) (.neg (.int 2))) (.seq (.ret (.tup (.cons (.str "looks") (.cons (.tidx (.ix (.var 0) (.int 1)) (.ix (.var 7) (.int 1))) .nil)))) .skip) .skip) (.seq (.expr (.mth .append (.ix (.var 6) (.int 2)) (.cons (.tup (.cons (.str "see") (.cons (.ix (.var 7) (.int 1)) (.cons (.var 11) .nil)))) .nil))) (.seq (.setIx (.var 6) (.int 1) (.ix (.ix (.var 7) (.int 2)) (.bin .add (.var 11) (.int 1)))) .skip))))) .skip)) .skip)) .skip))))))) (.seq (.ret (.tup (.cons (.str "done") .nil))) .skip))))
/-- _law_make: book, world, goals, st, outcome, goal, laid, file, traces, rule -/
def B_law_make (law_make_goal : Nat) : S := (.seq (.asg 3 (.lst (.cons (.dnew false) (.cons (.dnew false) (.cons (.dnew false) (.cons (.dnew false) (.cons (.lst .nil) (.cons (.lst .nil) .nil)))))))) (.seq (.asg 4 (.tup (.cons (.str "done") .nil))) (.seq (.for_ (.one 5) (.iSeq (.var 2)) (.seq (.ifs (.ands (.cons (.cmp .notin (.var 5) (.ix (.var 3) (.int 0))) (.cons (.cmp .eq (.var 4) (.tup (.cons (.str "done") .nil))) .nil))) (.seq (.asg 4 (.call law_make_goal (.cons (.var 0) (.cons (.var 1) (.cons (.var 3) (.cons (.var 5) .nil)))))) .skip) .skip) .skip)) (.seq (.asg 6 (.blt .tuple (.cons (.comp [("file", 7)] (.one 7) (.iSeq (.blt .sorted (.cons (.ix (.var 3) (.int 2)) .nil))) .nil (.tup (.cons (.var 7) (.cons (.ix (.ix (.var 3) (.int 1)) (.var 7)) (.cons (.ix (.ix (.var 3) (.int 2)) (.var 7)) .nil))))) .nil))) (.seq (.asg 8 (.blt .tuple (.cons (.comp [("rule", 9)] (.one 9) (.iSeq (.ix (.var 3) (.int 4))) .nil (.tup (.cons (.var 9) (.cons (.ix (.ix (.var 3) (.int 0)) (.var 9)) .nil)))) .nil))) (.seq (.ret (.tup (.cons (.var 4) (.cons (.var 6) (.cons (.var 8) (.cons (.blt .tuple (.cons (.ix (.var 3) (.int 5)) .nil)) .nil)))))) .skip))))))
/-- _law_alone: book, world, rule, told -/
def B_law_alone (law_make : Nat) : S := (.seq (.asg 3 (.call law_make (.cons (.var 0) (.cons (.var 1) (.cons (.tup (.cons (.var 2) .nil)) .nil))))) (.seq (.ifs (.cmp .ne (.ix (.var 3) (.int 0)) (.tup (.cons (.str "done") .nil))) (.seq (.ret (.tup (.cons (.ix (.var 3) (.int 0)) (.cons (.tup .nil) .nil)))) .skip) .skip) (.seq (.ret (.tup (.cons (.ix (.var 3) (.int 0)) (.cons (.ix (.ix (.ix (.var 3) (.int 2)) (.bin .sub (.blt .len (.cons (.ix (.var 3) (.int 2)) .nil)) (.int 1))) (.int 1)) .nil)))) .skip)))
structure LkAt (M : Hm) (A : MA) (st : Mst) : Prop where
  nd : A.all.Nodup
  p : M A.p = some (.lst [.ref A.d, .ref A.c, .ref A.w, .ref A.s, .ref A.r, .ref A.m])
  d : M A.d = some (.dct false false (dU trU st.done))
  r : M A.r = some (.lst (st.order.map U.str))
  w : M A.w = some (.dct false false (dU U.str st.owners))
  c : M A.c = some (.dct false false (dU U.int st.cont))
  s : M A.s = some (.dct false false (dU U.ref A.sk))
  m : M A.m = some (.lst (st.moves.map U.str))
  inn : ∀ x ∈ A.sk, ∃ ks : List Str, M x.2 = some (.lst (ks.map U.str)) ∧ (∀ r, r ∈ ks ↔ (x.1, r) ∈ st.seen) ∧ ks.length ≤ st.seen.length ∧ ∀ r ∈ ks, okS r = true
  cov : ∀ y ∈ st.seen, (kfind A.sk y.1).isSome = true
  skl : A.sk.length ≤ st.seen.length
  skn : (A.sk.map (·.1)).Nodup
theorem LkAt.same {M M' : Hm} {A : MA} {st : Mst} (h : LkAt M A st) (e : ∀ a ∈ A.all, M' a = M a) : LkAt M' A st := by
  have mf : ∀ a, a ∈ A.fix → M' a = M a := fun a ha => e a (List.mem_append_left _ ha)
  refine ⟨h.nd, ?_, ?_, ?_, ?_, ?_, ?_, ?_, fun x hx => ?_, h.cov, h.skl, h.skn⟩
  · rw [mf _ (by simp [MA.fix])]; exact h.p
  · rw [mf _ (by simp [MA.fix])]; exact h.d
  · rw [mf _ (by simp [MA.fix])]; exact h.r
  · rw [mf _ (by simp [MA.fix])]; exact h.w
  · rw [mf _ (by simp [MA.fix])]; exact h.c
  · rw [mf _ (by simp [MA.fix])]; exact h.s
  · rw [mf _ (by simp [MA.fix])]; exact h.m
  · rw [e _ (List.mem_append_right _ (List.mem_map.mpr ⟨x, hx, rfl⟩))]; exact h.inn x hx
theorem LkAt.off {M : Hm} {A : MA} {st : Mst} {a : Addr} {o : MO} (h : LkAt M A st) (ha : a ∉ A.all) : LkAt (um M a o) A st :=
  h.same fun x hx => um_ne fun z => ha (z ▸ hx)
theorem LkAt.sub {M M' : Hm} {A : MA} {st : Mst} (h : LkAt M A st) (s : Sub M M') : LkAt M' A st := by
  refine ⟨h.nd, s _ _ h.p, s _ _ h.d, s _ _ h.r, s _ _ h.w, s _ _ h.c, s _ _ h.s, s _ _ h.m, fun x hx => ?_, h.cov, h.skl, h.skn⟩
  obtain ⟨ks, h1, h2⟩ := h.inn x hx
  exact ⟨ks, s _ _ h1, h2⟩
theorem LkAt.has {M : Hm} {A : MA} {st : Mst} (h : LkAt M A st) {a : Addr} (ha : a ∈ A.all) : ∃ o, M a = some o := by
  unfold MA.all MA.fix at ha
  rcases List.mem_append.mp ha with ha | ha
  · simp only [List.mem_cons, List.not_mem_nil, or_false] at ha
    rcases ha with rfl | rfl | rfl | rfl | rfl | rfl | rfl
    · exact ⟨_, h.p⟩
    · exact ⟨_, h.d⟩
    · exact ⟨_, h.r⟩
    · exact ⟨_, h.w⟩
    · exact ⟨_, h.c⟩
    · exact ⟨_, h.s⟩
    · exact ⟨_, h.m⟩
  · obtain ⟨x, hx, rfl⟩ := List.mem_map.mp ha
    obtain ⟨ks, h1, _⟩ := h.inn x hx
    exact ⟨_, h1⟩
theorem LkAt.new {M : Hm} {A : MA} {st : Mst} (h : LkAt M A st) {a : Addr} (ha : M a = none) : a ∉ A.all := fun z => by
  obtain ⟨o, e⟩ := h.has z
  rw [ha] at e
  cases e
section
variable {M : Hm} {A : MA} {st : Mst}
theorem LkAt.setm (h : LkAt M A st) (x : Str) : LkAt (um M A.m (.lst ((st.moves ++ [x]).map U.str))) A (mv st x) := by
  have n := MA.ne h.nd
  refine ⟨h.nd, um_oth n.pm h.p, um_oth n.dm h.d, um_oth n.rm h.r, um_oth n.wm h.w, um_oth n.cm h.c, um_oth n.sm h.s, um_same, fun y hy => ?_, h.cov, h.skl, h.skn⟩
  obtain ⟨ks, h1, h2⟩ := h.inn y hy
  exact ⟨ks, um_oth (n.sk y hy).2.2.2.2.2.2 h1, h2⟩
theorem LkAt.setw (h : LkAt M A st) (f r : Str) : LkAt (um M A.w (.dct false false (dU U.str (kput st.owners f r)))) A { st with owners := kput st.owners f r } := by
  have n := MA.ne h.nd
  refine ⟨h.nd, um_oth n.pw h.p, um_oth n.dw h.d, um_oth n.rw h.r, um_same, um_oth n.wc.symm h.c, um_oth n.ws.symm h.s, um_oth n.wm.symm h.m, fun y hy => ?_, h.cov, h.skl, h.skn⟩
  obtain ⟨ks, h1, h2⟩ := h.inn y hy
  exact ⟨ks, um_oth (n.sk y hy).2.2.2.1 h1, h2⟩
theorem LkAt.setc (h : LkAt M A st) (f : Str) (r : Int) : LkAt (um M A.c (.dct false false (dU U.int (kput st.cont f r)))) A { st with cont := kput st.cont f r } := by
  have n := MA.ne h.nd
  refine ⟨h.nd, um_oth n.pc h.p, um_oth n.dc h.d, um_oth n.rc h.r, um_oth n.wc h.w, um_same, um_oth n.cs.symm h.s, um_oth n.cm.symm h.m, fun y hy => ?_, h.cov, h.skl, h.skn⟩
  obtain ⟨ks, h1, h2⟩ := h.inn y hy
  exact ⟨ks, um_oth (n.sk y hy).2.2.2.2.1 h1, h2⟩
theorem LkAt.setd (h : LkAt M A st) (f : Str) (r : List Ev) : LkAt (um M A.d (.dct false false (dU trU (kput st.done f r)))) A { st with done := kput st.done f r } := by
  have n := MA.ne h.nd
  refine ⟨h.nd, um_oth n.pd h.p, um_same, um_oth n.dr.symm h.r, um_oth n.dw.symm h.w, um_oth n.dc.symm h.c, um_oth n.ds.symm h.s, um_oth n.dm.symm h.m, fun y hy => ?_, h.cov, h.skl, h.skn⟩
  obtain ⟨ks, h1, h2⟩ := h.inn y hy
  exact ⟨ks, um_oth (n.sk y hy).2.1 h1, h2⟩
theorem LkAt.setr (h : LkAt M A st) (f : Str) : LkAt (um M A.r (.lst ((st.order ++ [f]).map U.str))) A { st with order := st.order ++ [f] } := by
  have n := MA.ne h.nd
  refine ⟨h.nd, um_oth n.pr h.p, um_oth n.dr h.d, um_same, um_oth n.rw.symm h.w, um_oth n.rc.symm h.c, um_oth n.rs.symm h.s, um_oth n.rm.symm h.m, fun y hy => ?_, h.cov, h.skl, h.skn⟩
  obtain ⟨ks, h1, h2⟩ := h.inn y hy
  exact ⟨ks, um_oth (n.sk y hy).2.2.1 h1, h2⟩
/-- a file that is seen again -/
theorem LkAt.sees (h : LkAt M A st) {f : Str} {a : Addr} (hf : kfind A.sk f = some a) {ks : List Str} (hk : M a = some (.lst (ks.map U.str))) (r : Str) (hr : okS r = true) :
    LkAt (um M a (.lst ((ks ++ [r]).map U.str))) A (sn st f r) := by
  have n := MA.ne h.nd
  have hm := kfind_mem hf
  obtain ⟨a1, a2, a3, a4, a5, a6, a7⟩ := n.sk _ hm
  refine ⟨h.nd, um_oth a1.symm h.p, um_oth a2.symm h.d, um_oth a3.symm h.r, um_oth a4.symm h.w, um_oth a5.symm h.c, um_oth a6.symm h.s, um_oth a7.symm h.m, fun y hy => ?_, fun y hy => ?_, ?_, h.skn⟩
  · obtain ⟨ks', h1, h2, h3, h4⟩ := h.inn y hy
    by_cases e : y.2 = a
    · have ey : y = (f, a) := by
        have := nodup_map_inj n.skn hy hm e
        exact this
      subst ey
      rw [hk] at h1
      simp only [Option.some.injEq, MO.lst.injEq] at h1
      have hks : ks = ks' := by
        have inj : ∀ {x y : List Str}, x.map U.str = y.map U.str → x = y := fun {x} => by
          induction x with
          | nil => intro y e; cases y with
            | nil => rfl
            | cons _ _ => cases e
          | cons p x ih => intro y e; cases y with
            | nil => cases e
            | cons q y =>
              simp only [List.map_cons, List.cons.injEq, U.str.injEq] at e
              rw [e.1, ih e.2]
        exact inj h1
      subst hks
      refine ⟨_, um_same, fun q => ?_, ?_, fun q hq => ?_⟩
      · rw [List.mem_append, h2 q, List.mem_singleton]
        simp only [sn, seen_mem, true_and]
      · simp only [sn, List.length_append, List.length_singleton]
        omega
      · rcases List.mem_append.mp hq with hq | hq
        · exact h4 q hq
        · rw [List.mem_singleton] at hq; subst hq; exact hr
    · refine ⟨ks', um_oth e h1, fun q => ?_, by simp only [sn, List.length_append]; omega, h4⟩
      rw [h2 q]
      have hne : y.1 ≠ f := fun z => e (by
        have e2 := nodup_map_inj h.skn hy hm z
        rw [e2])
      simp only [sn, seen_mem, hne, false_and, or_false]
  · rcases List.mem_append.mp hy with hy | hy
    · exact h.cov y hy
    · rw [List.mem_singleton] at hy
      subst hy
      show (kfind A.sk f).isSome = true
      rw [hf]; rfl
  · have := h.skl
    simp only [sn, List.length_append]
    omega
/-- a file that is seen for the first time -/
theorem LkAt.first (h : LkAt M A st) {f : Str} {a : Addr} (hf : kfind A.sk f = none) (ha : M a = none) (r : Str) (hr : okS r = true) :
    LkAt (um (um M a (.lst [.str r])) A.s (.dct false false (dU U.ref (A.sk ++ [(f, a)])))) { A with sk := A.sk ++ [(f, a)] } (sn st f r) := by
  have n := MA.ne h.nd
  have na : ∀ x o, M x = some o → x ≠ a := fun x o e z => by rw [z, ha] at e; cases e
  have hnf : f ∉ A.sk.map (·.1) := fun z => by
    have e : (kfind A.sk f).isSome = true := by rw [kfind_isSome]; exact decide_eq_true z
    rw [hf] at e
    cases e
  have hns : ∀ r, (f, r) ∉ st.seen := fun r z => by
    have := h.cov _ z
    rw [hf] at this
    cases this
  refine ⟨?_, um_oth n.ps (um_oth (na _ _ h.p) h.p), um_oth n.ds (um_oth (na _ _ h.d) h.d), um_oth n.rs (um_oth (na _ _ h.r) h.r), um_oth n.ws (um_oth (na _ _ h.w) h.w), um_oth n.cs (um_oth (na _ _ h.c) h.c), um_same, um_oth n.sm.symm (um_oth (na _ _ h.m) h.m), fun y hy => ?_, fun y hy => ?_, ?_, ?_⟩
  · have h1 := h.nd
    have h2 : a ∉ A.all := h.new ha
    show (A.fix ++ (A.sk ++ [(f, a)]).map (·.2)).Nodup
    rw [List.map_append, ← List.append_assoc]
    exact List.nodup_append.mpr ⟨h1, by simp, fun x hx y hy e => by rw [List.map_singleton, List.mem_singleton] at hy; subst hy; subst e; exact h2 hx⟩
  · rcases List.mem_append.mp hy with hy | hy
    · obtain ⟨ks, h1, h2, h3, h4⟩ := h.inn y hy
      refine ⟨ks, um_oth (n.sk y hy).2.2.2.2.2.1 (um_oth (na _ _ h1) h1), fun q => ?_, by simp only [sn, List.length_append]; omega, h4⟩
      rw [h2 q]
      have hne : y.1 ≠ f := fun z => hnf (z ▸ List.mem_map.mpr ⟨y, hy, rfl⟩)
      simp only [sn, seen_mem, hne, false_and, or_false]
    · rw [List.mem_singleton] at hy
      subst hy
      refine ⟨[r], um_oth (fun z => na _ _ h.s (z : a = A.s).symm) um_same, fun q => ?_, by simp [sn], by simpa using hr⟩
      simp [sn, hns q]
  · show (kfind (A.sk ++ [(f, a)]) y.1).isSome = true
    rw [kfind_isSome, List.map_append]
    refine decide_eq_true (List.mem_append.mpr ?_)
    rcases List.mem_append.mp hy with hy | hy
    · have := h.cov y hy
      rw [kfind_isSome] at this
      exact .inl (of_decide_eq_true this)
    · rw [List.mem_singleton] at hy
      subst hy
      exact .inr (by simp)
  · have := h.skl
    simp only [sn, List.length_append, List.length_singleton]
    omega
  · show ((A.sk ++ [(f, a)]).map (·.1)).Nodup
    rw [List.map_append]
    exact List.nodup_append.mpr ⟨h.skn, by simp, fun x hx y hy e => by rw [List.map_singleton, List.mem_singleton] at hy; subst hy; subst e; exact hnf hx⟩
end
structure LrAt (M : Hm) (z : FA) (f : Fm) : Prop where
  nd : z.all.Nodup
  q : M z.q = some (.lst [.str f.rule, encB f.at_, .ref z.e, .ref z.o])
  e : M z.e = some (.lst (f.evs.map encE))
  o : M z.o = some (.dct false false (dU U.int (layM f.evs)))
theorem LrAt.keep {M M' : Hm} {A A' : MA} {L : List Addr} {z : FA} {f : Fm} (h : LrAt M z f) (k : KeepZ L A A' M M') (ha : ∀ a ∈ z.all, a ∉ A.all ∧ a ∉ L) : LrAt M' z f := by
  have h1 := ha z.q (by simp [FA.all])
  have h2 := ha z.e (by simp [FA.all])
  have h3 := ha z.o (by simp [FA.all])
  exact ⟨h.nd, k.old _ _ h1.1 h1.2 h.q, k.old _ _ h2.1 h2.2 h.e, k.old _ _ h3.1 h3.2 h.o⟩
theorem LrAt.ne {M : Hm} {z : FA} {f : Fm} (h : LrAt M z f) : z.q ≠ z.e ∧ z.q ≠ z.o ∧ z.e ≠ z.o := by
  have := h.nd
  unfold FA.all at this
  simp only [List.nodup_cons, List.mem_cons, List.not_mem_nil, or_false, not_or] at this
  exact ⟨this.1.1, this.1.2, this.2.1⟩
theorem LrAt.has {M : Hm} {z : FA} {f : Fm} (h : LrAt M z f) {a : Addr} (ha : a ∈ z.all) : ∃ x, M a = some x := by
  unfold FA.all at ha
  simp only [List.mem_cons, List.not_mem_nil, or_false] at ha
  rcases ha with rfl | rfl | rfl
  · exact ⟨_, h.q⟩
  · exact ⟨_, h.e⟩
  · exact ⟨_, h.o⟩
structure LS (M : Hm) (A : MA) (k : Addr) (zs : List (Fm × FA)) (st : Mst) : Prop where
  ma : LkAt M A st
  fr : ∀ z ∈ zs, LrAt M z.2 z.1
  kk : M k = some (.lst (zs.map fun z => U.ref z.2.q))
  ka : k ∉ A.all
  kz : ∀ z ∈ zs, k ∉ z.2.all
  za : ∀ z ∈ zs, ∀ a ∈ z.2.all, a ∉ A.all
  zz : zs.Pairwise fun x y => ∀ a ∈ x.2.all, a ∉ y.2.all
section
variable {M M' M0 : Hm} {A A' A0 : MA} {k : Addr} {zi zs : List (Fm × FA)} {f g : Fm} {z : FA} {st st' : Mst}
theorem LS.top (h : LS M A k (zi ++ [(f, z)]) st) : LrAt M z f ∧ (∀ a ∈ z.all, a ∉ A.all) ∧ k ∉ z.all :=
  ⟨h.fr (f, z) (by simp), h.za (f, z) (by simp), h.kz (f, z) (by simp)⟩
/-- the top frame goes on -/
theorem LS.go (h : LS M A k (zi ++ [(f, z)]) st) (h1 : LkAt M' A' st') (h2 : LrAt M' z g) (K : KeepZ z.all A A' M M') : LS M' A' k (zi ++ [(g, z)]) st' := by
  obtain ⟨t1, t2, t3⟩ := h.top
  have hzz := pair_snoc.mp h.zz
  have na : ∀ {a x}, M a = some x → a ∉ A.all → a ∉ A'.all := fun {a x} e hn z2 => by
    rcases K.new a z2 with h3 | h3
    · exact hn h3
    · rw [e] at h3; cases h3
  refine ⟨h1, fun y hy => ?_, ?_, na h.kk h.ka, fun y hy => ?_, fun y hy a ha => ?_, pair_snoc.mpr ⟨hzz.1, fun y hy => hzz.2 y hy⟩⟩
  · rcases List.mem_append.mp hy with hy | hy
    · exact (h.fr y (List.mem_append_left _ hy)).keep K fun a ha => ⟨h.za y (List.mem_append_left _ hy) a ha, hzz.2 y hy a ha⟩
    · rw [List.mem_singleton] at hy; subst hy; exact h2
  · have e := K.old k _ h.ka t3 h.kk
    rw [e]
    simp
  · rcases List.mem_append.mp hy with hy | hy
    · exact h.kz y (List.mem_append_left _ hy)
    · rw [List.mem_singleton] at hy; subst hy; exact t3
  · rcases List.mem_append.mp hy with hy | hy
    · obtain ⟨x, e⟩ := (h.fr y (List.mem_append_left _ hy)).has ha
      exact na e (h.za y (List.mem_append_left _ hy) a ha)
    · rw [List.mem_singleton] at hy; subst hy
      obtain ⟨x, e⟩ := t1.has ha
      exact na e (t2 a ha)
theorem LS.keepA (h : LS M A k zs st) (h1 : LkAt M' A' st') (K : Keep A A' M M') : LS M' A' k zs st' := by
  refine ⟨h1, fun y hy => (h.fr y hy).keep (K.z []) fun a ha => ⟨h.za y hy a ha, by simp⟩, K.old _ _ h.ka h.kk, K.out h.ka h.kk, h.kz, fun y hy a ha => ?_, h.zz⟩
  obtain ⟨x, e⟩ := (h.fr y hy).has ha
  exact K.out (h.za y hy a ha) e
/-- the stack's row changed -/
theorem LS.pop (h : LS M A k (zi ++ [(f, z)]) st) : LS (um M k (.lst (zi.map fun z => U.ref z.2.q))) A k zi st := by
  refine ⟨h.ma.off h.ka, fun y hy => ?_, um_same, h.ka, fun y hy => h.kz y (List.mem_append_left _ hy), fun y hy => h.za y (List.mem_append_left _ hy), (pair_snoc.mp h.zz).1⟩
  have hf := h.fr y (List.mem_append_left _ hy)
  have hk := h.kz y (List.mem_append_left _ hy)
  exact ⟨hf.nd, um_oth (fun e => hk (by rw [← e]; simp [FA.all])) hf.q, um_oth (fun e => hk (by rw [← e]; simp [FA.all])) hf.e, um_oth (fun e => hk (by rw [← e]; simp [FA.all])) hf.o⟩
theorem LS.push (h : LS M A k zs st) (h1 : LrAt M z f) (h2 : ∀ a ∈ z.all, a ∉ A.all) (h3 : k ∉ z.all) (h4 : ∀ y ∈ zs, ∀ a ∈ y.2.all, a ∉ z.all) : LS (um M k (.lst ((zs ++ [(f, z)]).map fun z => U.ref z.2.q))) A k (zs ++ [(f, z)]) st := by
  have fo : ∀ {z : FA} {f : Fm}, LrAt M z f → k ∉ z.all → LrAt (um M k (.lst ((zs ++ [(f, z)]).map fun z => U.ref z.2.q))) z f := fun {z f} hf hk =>
    ⟨hf.nd, um_oth (fun e => hk (by rw [← e]; simp [FA.all])) hf.q, um_oth (fun e => hk (by rw [← e]; simp [FA.all])) hf.e, um_oth (fun e => hk (by rw [← e]; simp [FA.all])) hf.o⟩
  have fo : ∀ {z2 : FA} {f2 : Fm}, LrAt M z2 f2 → k ∉ z2.all → LrAt (um M k (.lst ((zs ++ [(f, z)]).map fun z => U.ref z.2.q))) z2 f2 := fun {z f} hf hk =>
    ⟨hf.nd, um_oth (fun e => hk (by rw [← e]; simp [FA.all])) hf.q, um_oth (fun e => hk (by rw [← e]; simp [FA.all])) hf.e, um_oth (fun e => hk (by rw [← e]; simp [FA.all])) hf.o⟩
  refine ⟨h.ma.off h.ka, fun y hy => ?_, um_same, h.ka, fun y hy => ?_, fun y hy => ?_, pair_snoc.mpr ⟨h.zz, h4⟩⟩
  · rcases List.mem_append.mp hy with hy | hy
    · exact fo (h.fr y hy) (h.kz y hy)
    · rw [List.mem_singleton] at hy; subst hy; exact fo h1 h3
  · rcases List.mem_append.mp hy with hy | hy
    · exact h.kz y hy
    · rw [List.mem_singleton] at hy; subst hy; exact h3
  · rcases List.mem_append.mp hy with hy | hy
    · exact h.za y hy
    · rw [List.mem_singleton] at hy; subst hy; exact h2
end
end Pl

set_option maxHeartbeats 1000000
/-! the laws' own makings: body, seen, broken, lay down -/
namespace Pl
open PySem L2
theorem lbody_ok {C : CE} {nx bk ct : SU → Hm → Prop} {rt : QU} {M : Hm} {b : Bk} {r : Str} {bd : Bd} (hb : b.bodyOf r = some bd) (hq : rt (encB bd) M) : wS C B_law_body_of ⟨nx, rt, bk, ct⟩ (startU 3 [encBk b, .str r]) M := by
  unfold B_law_body_of encBk
  (repeat decreasing_trivial_pre_omega)
  refine forL_by (enc := encRow) (fun don rest σ M' => M' = M ∧ kfind rest r = some bd ∧ ∃ u2, σ = [some (.tup [.int b.n, .dtp (b.heads.map U.str), .tup (b.rows.map encRow)]), some (.str r), u2]) b.rows ⟨rfl, hb, _, rfl⟩ ?_ ?_
  · intro don x rest σ M' k e ⟨e1, e2, u2, e3⟩ hk
    subst e1 e3
    unfold encRow
    rw [kfind_cons] at e2
    (repeat decreasing_trivial_pre_omega)
    refine i_ifd (fun h => ?_) (fun h => ?_)
    · rw [if_pos h] at e2
      (repeat decreasing_trivial_pre_omega)
      rw [Option.some.inj e2]
      exact hq
    · rw [if_neg h] at e2
      (repeat decreasing_trivial_pre_omega)
      exact hk _ _ trivial ⟨rfl, e2, _, rfl⟩
  · intro σ M' ⟨_, e2, _⟩
    cases e2
def LBodyF (C : CE) (f : Nat) : Prop := ∀ (M : Hm) (b : Bk) (r : Str) (bd : Bd) (Q : QU), b.bodyOf r = some bd → Q (encB bd) M → C f [encBk b, .str r] M Q
theorem lseen_ok {C : CE} {nx bk ct : SU → Hm → Prop} {rt : QU} {M : Hm} {A : MA} {z : FA} {g : Fm} {b : Bk} {wd : List Int} {st : Mst} {f : Str} (h : LkAt M A st) (hw : wd.length = b.heads.length) (hz : LrAt M z g) (hr : okS g.rule = true)
    (hl : st.seen.length < 90000)
    (hq1 : ∀ c, kfind (layM g.evs) f = some c → rt (.int c) M)
    (hq2 : ∀ A' M', A'.p = A.p → kfind (layM g.evs) f = none → LkAt M' A' (sn st f g.rule) → Keep A A' M M' → rt (.int (contentM b wd st f)) M') :
    wS C B_law_seen ⟨nx, rt, bk, ct⟩ (startU 6 [encBk b, .tup (wd.map U.int), .ref A.p, .ref z.q, .str f]) M := by
  have hp := h.p
  have hs := h.s
  have n := MA.ne h.nd
  have hzq := hz.q
  have ho := hz.o
  unfold B_law_seen encBk
  (repeat decreasing_trivial_pre_omega)
  refine in_dct ho rfl ?_
  rw [dU_find, Option.isSome_map]
  cases hk : kfind (layM g.evs) f with
  | some c =>
    refine i_ift rfl ?_
    (repeat decreasing_trivial_pre_omega)
    refine x_dct ho rfl (by rw [dU_find, hk]; rfl) ?_
    exact hq1 c hk
  | none =>
    refine i_iff rfl ?_
    (repeat decreasing_trivial_pre_omega)
    have hskl : A.sk.length ≤ st.seen.length := h.skl
    -- what stands behind
    have tail : ∀ (A' : MA) (M' : Hm) (v5 : Option U), A'.p = A.p → LkAt M' A' (sn st f g.rule) → Keep A A' M M' → wS C (.seq (.ifs (.cmp .isin (.var 4) (.ix (.var 0) (.int 1))) (.seq (.ret (.ix (.var 1) (.tidx (.ix (.var 0) (.int 1)) (.var 4)))) .skip) .skip) (.seq (.ret (.dget (.ix (.var 2) (.int 1)) (.var 4) (.neg (.int 1)))) .skip)) ⟨nx, rt, bk, ct⟩ [some (.tup [.int b.n, .dtp (b.heads.map U.str), .tup (b.rows.map encRow)]), some (.tup (wd.map U.int)), some (.ref A.p), some (.ref z.q), some (.str f), v5] M' := fun A' M' v5 g1 g2 g3 => by
      have hp2 := g2.p
      have hc2 := g2.c
      rw [g1] at hp2
      have hres := hq2 A' M' g1 hk g2 g3
      (repeat decreasing_trivial_pre_omega)
      refine in_dtp (strs_all _) rfl ?_
      by_cases h1 : f ∈ b.heads
      · refine i_ift (decide_eq_true (mem_strs.mpr h1)) ?_
        (repeat decreasing_trivial_pre_omega)
        refine m_tidx (j := b.heads.idxOf f) ?_ ?_ ?_
        · rw [List.getElem?_eq_getElem (List.idxOf_lt_length_iff.mpr h1)]
          simp
        · intro m hm z2
          exact idxOf_first m hm z2
        have hi : b.heads.idxOf f < wd.length := by rw [hw]; exact List.idxOf_lt_length_iff.mpr h1
        (repeat decreasing_trivial_pre_omega)
        refine x_tup (v := .int wd[b.heads.idxOf f]) (by rw [atI_nat (by rw [List.length_map]; exact hi), List.getElem_map]) ?_
        have e9 : contentM b wd st f = wd[b.heads.idxOf f] := by
          unfold contentM
          rw [if_pos h1, List.getD_eq_getElem?_getD, List.getElem?_eq_getElem hi]
          rfl
        rw [← e9]
        exact hres
      · refine i_iff (decide_eq_false fun z2 => h1 (mem_strs.mp z2)) ?_
        (repeat decreasing_trivial_pre_omega)
        refine d_get hc2 rfl ?_
        rw [dU_find]
        have e9 : contentM b wd st f = (kfind st.cont f).getD (-1) := by
          unfold contentM
          rw [if_neg h1]
        rw [e9] at hres
        have e8 : (sn st f g.rule).cont = st.cont := rfl
        rw [e8]
        cases hk : kfind st.cont f with
        | none => rw [hk] at hres; exact hres
        | some v => rw [hk] at hres; exact hres
    intro a ha
    cases hf : kfind A.sk f with
    | some q =>
      have hm := kfind_mem hf
      obtain ⟨ks, h1, h2, h3, h4⟩ := h.inn _ hm
      refine sd_old (um_old hs ha) rfl (by rw [dU_len]; unfold LIM; omega) (by rw [dU_find, hf]; rfl) ?_
      have h1' : um M a (.lst []) q = some (.lst (ks.map U.str)) := um_old h1 ha
      have hzq' : um M a (.lst []) z.q = some _ := um_old hzq ha
      have hM := (h.sub (sub_um (Sub.refl _) ha)).sees hf (M := um M a (.lst [])) h1' g.rule hr
      have k1 : Keep A A M (um M a (.lst [])) := ⟨fun x y _ e => um_old e ha, fun _ z => .inl z⟩
      have e6 : ks.map U.str ++ [U.str g.rule] = (ks ++ [g.rule]).map U.str := by simp
      (repeat decreasing_trivial_pre_omega)
      refine m_app h1' (by rw [List.length_map]; unfold LIM; omega) ?_
      rw [e6]
      exact tail A _ _ rfl hM (k1.trans (keep_um (List.mem_append_right _ (List.mem_map.mpr ⟨_, hm, rfl⟩))))
    | none =>
      refine sd_new (um_old hs ha) rfl (by rw [dU_len]; unfold LIM; omega) (by rw [dU_find, hf]; rfl) ?_
      have na : A.s ≠ a := ne_of_old hs ha
      have nq : z.q ≠ a := ne_of_old hzq ha
      have ns : z.q ≠ A.s := fun e => by rw [e, hs] at hzq; cases hzq
      have e2 : dU U.ref A.sk ++ [(U.str f, U.ref a)] = dU U.ref (A.sk ++ [(f, a)]) := by unfold dU; rw [List.map_append]; rfl
      rw [e2]
      have h1' : um (um M a (.lst [])) A.s (.dct false false (dU U.ref (A.sk ++ [(f, a)]))) a = some (.lst []) := um_oth na.symm um_same
      have hzq' := um_oth (o := .dct false false (dU U.ref (A.sk ++ [(f, a)]))) ns (um_oth (o := .lst []) nq hzq)
      (repeat decreasing_trivial_pre_omega)
      refine m_app h1' (by simp [LIM]) ?_
      have hM := h.first hf ha g.rule hr
      have e3 : um (um (um M a (.lst [])) A.s (.dct false false (dU U.ref (A.sk ++ [(f, a)])))) a (.lst [.str g.rule]) =
          um (um M a (.lst [.str g.rule])) A.s (.dct false false (dU U.ref (A.sk ++ [(f, a)]))) := by
        rw [um_comm na, um_um]
      rw [List.nil_append, e3]
      refine tail { A with sk := A.sk ++ [(f, a)] } _ _ rfl hM ⟨fun x y hx e => ?_, fun x hx => ?_⟩
      · have nx1 : x ≠ A.s := fun z => hx (by rw [z]; exact List.mem_append_left _ (by simp [MA.fix]))
        exact um_oth nx1 (um_old e ha)
      · have hx : x ∈ A.fix ++ (A.sk ++ [(f, a)]).map (·.2) := hx
        rw [List.map_append, ← List.append_assoc] at hx
        rcases List.mem_append.mp hx with hx | hx
        · exact .inl hx
        · rw [List.map_singleton, List.mem_singleton] at hx
          subst hx
          exact .inr ha
def LSeenF (C : CE) (g0 : Nat) : Prop := ∀ (M : Hm) (A : MA) (z : FA) (g : Fm) (b : Bk) (wd : List Int) (st : Mst) (f : Str) (Q : QU), LkAt M A st → wd.length = b.heads.length → LrAt M z g → okS g.rule = true → st.seen.length < 90000 →
  (∀ c, kfind (layM g.evs) f = some c → Q (.int c) M) → (∀ A' M', A'.p = A.p → kfind (layM g.evs) f = none → LkAt M' A' (sn st f g.rule) → Keep A A' M M' → Q (.int (contentM b wd st f)) M') → C g0 [encBk b, .tup (wd.map U.int), .ref A.p, .ref z.q, .str f] M Q
def LLayF (C : CE) (g : Nat) : Prop := ∀ (M : Hm) (es : List Ev) (Q : QU), (∀ e ∈ es, e.ok) → es.length < LIM → (∀ M', Sub M M' → Q (layU es) M') → C g [.tup (es.map encE)] M Q
theorem lbroken_ok {C : CE} {fl : Nat} (hly : LLayF C fl) {nx bk ct : SU → Hm → Prop} {rt : QU} {M : Hm} {A : MA} {b : Bk} {st : Mst} {rule : Str} {evs : List Ev} (hb : BkOk b) (h : LkAt M A st) (heo : ∀ e ∈ evs, e.ok) (hev : evs.length < LIM)
    (hq : ∀ M', Sub M M' → rt (optO (faultM b st rule (layM evs))) M') : wS C (B_law_broken fl) ⟨nx, rt, bk, ct⟩ (startU 6 [encBk b, .ref A.p, .str rule, .tup (evs.map encE)]) M := by
  unfold B_law_broken
  have hrl := hb.rl
  (repeat decreasing_trivial_pre_omega)
  refine hly _ _ _ heo hev fun M1 s1 => ?_
  rw [layU_eq]
  generalize layM evs = lay at hq ⊢
  have hq1 : ∀ M', Sub M1 M' → rt (optO (faultM b st rule lay)) M' := fun M' s => hq M' (s1.trans s)
  replace h := h.sub s1
  clear hq hev hly s1 heo
  (repeat decreasing_trivial_pre_omega)
  refine forL_by (enc := lpU) (fun don rest σ M' => Sub M1 M' ∧ faultM b st rule lay = faultM b st rule rest ∧ ∃ u4 u5, σ = [some (encBk b), some (.ref A.p), some (.str rule), some (.tup (evs.map encE)), u4, u5]) lay ⟨Sub.refl _, rfl, _, _, rfl⟩ ?_ ?_
  · intro don x rest σ M' k e ⟨s1, e2, u4, u5, e3⟩ hk
    subst e3
    have h' := h.sub s1
    have hp := h'.p
    have hw := h'.w
    have hs := h'.s
    unfold lpU
    rw [faultM_cons] at e2
    (repeat decreasing_trivial_pre_omega)
    unfold encBk
    (repeat decreasing_trivial_pre_omega)
    refine in_dtp (strs_all _) rfl ?_
    by_cases h1 : x.1 ∈ b.heads
    · rw [if_pos h1] at e2
      refine i_ift (decide_eq_true (mem_strs.mpr h1)) ?_
      (repeat decreasing_trivial_pre_omega)
      rw [e2] at hq1
      exact hq1 _ s1
    rw [if_neg h1] at e2
    refine i_iff (decide_eq_false fun z2 => h1 (mem_strs.mp z2)) ?_
    (repeat decreasing_trivial_pre_omega)
    refine in_dct hw rfl ?_
    rw [dU_find, Option.isSome_map]
    cases hk2 : kfind st.owners x.1 with
    | some o =>
      rw [hk2] at e2
      refine i_ift rfl ?_
      (repeat decreasing_trivial_pre_omega)
      refine x_dct hw rfl (by rw [dU_find, hk2]; rfl) ?_
      (repeat decreasing_trivial_pre_omega)
      rw [e2] at hq1
      exact hq1 _ s1
    | none =>
      rw [hk2] at e2
      refine i_iff rfl ?_
      (repeat decreasing_trivial_pre_omega)
      refine forL_by (enc := encRow) (fun don2 rest2 σ M3 => Sub M1 M3 ∧ (∀ n ∈ don2.map (·.1), ¬ (n ≠ rule ∧ (x.1, n) ∈ st.seen)) ∧ ∃ u5, σ = [some (.tup [.int b.n, .dtp (b.heads.map U.str), .tup (b.rows.map encRow)]), some (.ref A.p), some (.str rule), some (.tup (evs.map encE)), some (.tup [.str x.1, .int x.2]), u5]) b.rows ⟨s1, by simp, _, rfl⟩ ?_ ?_
      · intro don2 nm rest2 σ M3 k2 e' ⟨s3, f2, v5, f3⟩ hk2'
        subst f3
        have h3 := h.sub s3
        have hp3 := h3.p
        have hs3 := h3.s
        have okn : okS nm.1 = true := (hb.rows nm (by rw [← e']; simp)).1
        have app : ∀ {Q : Prop}, ¬ (nm.1 ≠ rule ∧ (x.1, nm.1) ∈ st.seen) → ∀ n ∈ (don2 ++ [nm]).map (·.1), ¬ (n ≠ rule ∧ (x.1, n) ∈ st.seen) := fun hn n hm => by
          rw [List.map_append, List.mem_append] at hm
          rcases hm with hm | hm
          · exact f2 n hm
          · rw [List.map_singleton, List.mem_singleton] at hm; subst hm; exact hn
        unfold encRow
        by_cases hne : nm.1 = rule
        · (repeat decreasing_trivial_pre_omega)
          exact hk2' _ _ trivial ⟨s3, app (Q := True) fun z => z.1 hne, _, rfl⟩
        · (repeat decreasing_trivial_pre_omega)
          intro a ha
          refine d_get (um_old hs3 ha) rfl ?_
          rw [dU_find]
          cases hf : kfind A.sk x.1 with
          | none =>
            have hns : (x.1, nm.1) ∉ st.seen := fun z => by
              have := h.cov _ z
              rw [hf] at this
              cases this
            show cmpW .isin _ (.ref a) _ _
            refine c_in ?_
            refine in_lst um_same okn (by decide) ?_
            refine i_iff rfl ?_
            (repeat decreasing_trivial_pre_omega)
            exact hk2' _ _ trivial ⟨s3.trans (sub_um (Sub.refl _) ha), app (Q := True) fun z => hns z.2, _, rfl⟩
          | some q =>
            obtain ⟨ks, g1, g2, g3, g4⟩ := h3.inn _ (kfind_mem hf)
            have okk : okL (ks.map U.str) = true := okL_of fun u hu => by
              rw [List.mem_map] at hu
              obtain ⟨s, hs, rfl⟩ := hu
              exact g4 s hs
            show cmpW .isin _ (.ref q) _ _
            refine c_in ?_
            refine in_lst (um_old g1 ha) okn okk ?_
            by_cases hin : (x.1, nm.1) ∈ st.seen
            · refine i_ift (decide_eq_true (mem_strs.mpr ((g2 _).mpr hin))) ?_
              (repeat decreasing_trivial_pre_omega)
              have hr : readerM b st.seen rule x.1 = some nm.1 := by
                have e5 : don2.map (·.1) ++ nm.1 :: rest2.map (·.1) = b.names := by unfold Bk.names; rw [← e']; simp
                rw [readerM_of e5 f2, List.find?_cons_of_pos (by simpa using ⟨hne, hin⟩)]
              rw [hr] at e2
              rw [e2] at hq1
              exact hq1 _ (s3.trans (sub_um (Sub.refl _) ha))
            · refine i_iff (decide_eq_false fun z => hin ((g2 _).mp (mem_strs.mp z))) ?_
              (repeat decreasing_trivial_pre_omega)
              exact hk2' _ _ trivial ⟨s3.trans (sub_um (Sub.refl _) ha), app (Q := True) fun z => hin z.2, _, rfl⟩
      · intro σ M3 ⟨s3, f2, v5, f3⟩
        subst f3
        have hr : readerM b st.seen rule x.1 = none := by
          rw [readerM_of (rest := []) (by unfold Bk.names; simp) f2]; rfl
        rw [hr] at e2
        (repeat decreasing_trivial_pre_omega)
        exact hk _ _ trivial ⟨s3, e2, _, _, rfl⟩
  · intro σ M' ⟨s1, e2, u4, u5, e3⟩
    subst e3
    (repeat decreasing_trivial_pre_omega)
    rw [e2] at hq1
    exact hq1 _ s1
def LBrokF (C : CE) (g0 : Nat) : Prop := ∀ (M : Hm) (A : MA) (b : Bk) (st : Mst) (rule : Str) (evs : List Ev) (Q : QU), BkOk b → LkAt M A st → (∀ e ∈ evs, e.ok) → evs.length < LIM → (∀ M', Sub M M' → Q (optO (faultM b st rule (layM evs))) M') → C g0 [encBk b, .ref A.p, .str rule, .tup (evs.map encE)] M Q
theorem llaydown_ok {C : CE} {fl fb : Nat} (hly : LLayF C fl) (hbr : LBrokF C fb) {nx bk ct : SU → Hm → Prop} {rt : QU} {M : Hm} {A : MA} {b : Bk} {st : Mst} {rule : Str} {evs : List Ev} (hb : BkOk b) (h : LkAt M A st) (heo : ∀ e ∈ evs, e.ok)
    (h0 : evs.length < LIM) (h1 : st.owners.length + evs.length < LIM) (h2 : st.cont.length + evs.length < LIM) (h3 : st.done.length < LIM) (h4 : st.order.length < LIM)
    (hq1 : ∀ M' o, faultM b st rule (layM evs) = some o → LkAt M' A st → Keep A A M M' → rt (encO o) M')
    (hq2 : ∀ M', faultM b st rule (layM evs) = none → LkAt M' A (finM st rule evs) → Keep A A M M' → rt .non M') :
    wS C (B_law_lay_down fl fb) ⟨nx, rt, bk, ct⟩ (startU 6 [encBk b, .ref A.p, .str rule, .tup (evs.map encE)]) M := by
  have hlay := layM_len evs
  unfold B_law_lay_down
  (repeat decreasing_trivial_pre_omega)
  refine hbr _ _ _ _ _ _ _ hb h heo h0 fun M2 s2 => ?_
  have e2 := h.sub s2
  have k2 : Keep A A M M2 := s2.keep
  cases hfl : faultM b st rule (layM evs) with
  | some o =>
    have hne := encO_ne o
    unfold optO
    (repeat decreasing_trivial_pre_omega)
    exact hq1 _ _ hfl e2 k2
  | none =>
    show _
    unfold optO
    (repeat decreasing_trivial_pre_omega)
    refine hly _ _ _ heo h0 fun M3 s3 => ?_
    rw [layU_eq]
    have e3 := e2.sub s3
    have k3 := k2.trans s3.keep
    (repeat decreasing_trivial_pre_omega)
    refine forL_by (enc := lpU) (fun don rest σ M' => LkAt M' A (layDown st rule don) ∧ Keep A A M M' ∧ ∃ u5, σ = [some (encBk b), some (.ref A.p), some (.str rule), some (.tup (evs.map encE)), some .non, u5]) (layM evs) ⟨e3, k3, _, rfl⟩ ?_ ?_
    · intro don x rest σ M' k e ⟨e1, e2, u5, e3⟩ hk
      subst e3
      have n := MA.ne h.nd
      have hp := e1.p
      have hc := e1.c
      unfold lpU
      have l1 := downO_len rule don st.owners
      have l2 := down_len don st.cont
      have l3 : don.length + rest.length + 1 = (layM evs).length := by rw [← e]; simp; omega
      (repeat decreasing_trivial_pre_omega)
      refine st_dct (x := .str x.1) hc rfl (by rw [dU_len]; simp only [layDown]; omega) ?_
      rw [dU_put]
      have e4 := e1.setc x.1 x.2
      have hp4 := e4.p
      have hw4 := e4.w
      (repeat decreasing_trivial_pre_omega)
      refine st_dct (x := .str x.1) hw4 rfl (by rw [dU_len]; simp only [layDown]; omega) ?_
      rw [dU_put]
      have e5 := e4.setw x.1 rule
      (repeat decreasing_trivial_pre_omega)
      refine hk _ _ trivial ⟨by rw [layDown_snoc]; exact e5, (e2.trans (keep_um (by simp [MA.all, MA.fix]))).trans (keep_um (by simp [MA.all, MA.fix])), _, rfl⟩
    · intro σ M' ⟨e1, e2, u5, e3⟩
      subst e3
      have l1 := downO_len rule (layM evs) st.owners
      have l2 := down_len (layM evs) st.cont
      have hp3 := e1.p
      have hd3 := e1.d
      (repeat decreasing_trivial_pre_omega)
      refine st_dct (x := .str rule) hd3 rfl (by rw [dU_len]; simp only [layDown]; omega) ?_
      rw [show U.tup (evs.map encE) = trU evs from rfl, dU_put]
      have e4 := e1.setd rule evs
      have hp4 := e4.p
      have hr4 := e4.r
      (repeat decreasing_trivial_pre_omega)
      refine m_app hr4 (by rw [List.length_map]; simp only [layDown]; omega) ?_
      have e5 := e4.setr rule
      have e6 : ∀ l : List Str, l.map U.str ++ [U.str rule] = (l ++ [rule]).map U.str := fun l => by simp
      rw [e6]
      (repeat decreasing_trivial_pre_omega)
      refine hq2 _ hfl e5 ((e2.trans (keep_um (by simp [MA.all, MA.fix]))).trans (keep_um (by simp [MA.all, MA.fix])))
def LDownF (C : CE) (g : Nat) : Prop := ∀ (M : Hm) (A : MA) (b : Bk) (st : Mst) (rule : Str) (evs : List Ev) (Q : QU), BkOk b → LkAt M A st → (∀ e ∈ evs, e.ok) →
  evs.length < LIM → st.owners.length + evs.length < LIM → st.cont.length + evs.length < LIM → st.done.length < LIM → st.order.length < LIM →
  (∀ M' o, faultM b st rule (layM evs) = some o → LkAt M' A st → Keep A A M M' → Q (encO o) M') →
  (∀ M', faultM b st rule (layM evs) = none → LkAt M' A (finM st rule evs) → Keep A A M M' → Q .non M') → C g [encBk b, .ref A.p, .str rule, .tup (evs.map encE)] M Q
end Pl

set_option maxHeartbeats 1000000
/-! the laws' own makings: a turn -/
namespace Pl
open PySem L2
theorem atI_neg1 {α : Type} (l : List α) (x : α) : atI (l ++ [x]) (-1) = some x := by
  unfold atI ixN
  have e : ((l ++ [x]).length : Int) = (l.length : Int) + 1 := by simp
  rw [if_neg (by omega)]
  simp only [List.length_append, List.length_singleton]
  have e2 : (-1 + ((l.length + 1 : Nat) : Int)) = (l.length : Int) := by omega
  have e3 : (((l.length + 1 : Nat) : Int) + -1) = (l.length : Int) := by omega
  first | rw [e2] | rw [e3] | skip
  simp
  rw [if_pos (by omega)]
  simp
def lTurn (S1 S2 S3 S4 S5 : S) : S := (.seq (.asg 6 (.ix (.var 4) (.neg (.int 1)))) (.seq (.asg 7 (.ix (.var 6) (.int 1))) (.seq (.ifs (.ands (.cons (.cmp .eq (.ix (.var 7) (.int 0)) (.str "ask")) (.cons (.cmp .notin (.ix (.var 7) (.int 1)) (.ix (.var 2) (.int 0))) .nil))) S1 .skip) (.seq (.expr (.mth .append (.ix (.var 2) (.int 5)) (.cons (.ix (.var 6) (.int 0)) .nil))) (.seq (.ifs (.cmp .eq (.ix (.var 7) (.int 0)) (.str "done")) S2 (.seq (.ifs (.cmp .eq (.ix (.var 7) (.int 0)) (.str "ask")) S3 (.seq (.ifs (.cmp .eq (.ix (.var 7) (.int 0)) (.str "put")) S4 S5) .skip)) .skip)) .skip)))))
section
variable {C : CE} {nx bk ct : SU → Hm → Prop} {rt : QU} {M M0 : Hm} {A A0 : MA} {k : Addr} {zi : List (Fm × FA)} {f : Fm} {z : FA} {b : Bk} {wd : List Int} {st : Mst} {u0 u1 u3 u5 u6 u7 u8 u9 u10 u11 : Option U} {S1 S2 S3 S4 S5 : S}
theorem ld_push {r : Str} {kd : Bd} (h : LS M A k (zi ++ [(f, z)]) st) (hat : f.at_ = .ask r kd) (hnd : ¬ (kfind st.done r).isSome = true)
    (q : ∀ nx', wS C S1 ⟨nx', rt, bk, ct⟩ [u0, u1, some (.ref A.p), u3, some (.ref k), u5, some (.ref z.q), some (encB f.at_), u8, u9, u10, u11] M) :
    wS C (lTurn S1 S2 S3 S4 S5) ⟨nx, rt, bk, ct⟩ [u0, u1, some (.ref A.p), u3, some (.ref k), u5, u6, u7, u8, u9, u10, u11] M := by
  obtain ⟨t1, t2, t3⟩ := h.top
  have hp := h.ma.p
  have hd := h.ma.d
  have hzq := t1.q
  have hkk : M k = some (.lst ((zi.map fun z => U.ref z.2.q) ++ [U.ref z.q])) := by rw [h.kk, List.map_append]; rfl
  unfold lTurn
  rw [hat] at hzq q
  unfold encB at hzq q
  (repeat decreasing_trivial_pre_omega)
  refine x_lst hkk (atI_neg1 _ _) ?_
  (repeat decreasing_trivial_pre_omega)
  refine nin_dct hd rfl ?_
  rw [dU_find, Option.isSome_map]
  rw [show (kfind st.done r).isSome = false by simpa using hnd]
  refine i_ift rfl ?_
  exact q _
theorem ld_rest (h : LS M A k (zi ++ [(f, z)]) st) (o : Off M0 A0 M A k (zi ++ [(f, z)])) (hl : st.moves.length < 80000) (ha : ∀ r kd, f.at_ = .ask r kd → (kfind st.done r).isSome = true)
    (q : ∀ M1, LS M1 A k (zi ++ [(f, z)]) (mv st f.rule) → Off M0 A0 M1 A k (zi ++ [(f, z)]) → 
      wS C (.seq (.ifs (.cmp .eq (.ix (.var 7) (.int 0)) (.str "done")) S2 (.seq (.ifs (.cmp .eq (.ix (.var 7) (.int 0)) (.str "ask")) S3 (.seq (.ifs (.cmp .eq (.ix (.var 7) (.int 0)) (.str "put")) S4 S5) .skip)) .skip)) .skip) ⟨nx, rt, bk, ct⟩ [u0, u1, some (.ref A.p), u3, some (.ref k), u5, some (.ref z.q), some (encB f.at_), u8, u9, u10, u11] M1) :
    wS C (lTurn S1 S2 S3 S4 S5) ⟨nx, rt, bk, ct⟩ [u0, u1, some (.ref A.p), u3, some (.ref k), u5, u6, u7, u8, u9, u10, u11] M := by
  obtain ⟨t1, t2, t3⟩ := h.top
  have hp := h.ma.p
  have hd := h.ma.d
  have hm := h.ma.m
  have hzq := t1.q
  have hkk : M k = some (.lst ((zi.map fun z => U.ref z.2.q) ++ [U.ref z.q])) := by rw [h.kk, List.map_append]; rfl
  have e1 := h.ma.setm f.rule
  have e6 : st.moves.map U.str ++ [U.str f.rule] = (st.moves ++ [f.rule]).map U.str := by simp
  have K1 : Keep A A M (um M A.m (.lst ((st.moves ++ [f.rule]).map U.str))) := keep_um (by simp [MA.all, MA.fix])
  have r1 := h.keepA e1 K1
  have o1 := o.keepA K1
  have q := q _ r1 o1
  unfold lTurn
  cases hat : f.at_ with
  | done =>
    rw [hat] at hzq q
    unfold encB at hzq q
    (repeat decreasing_trivial_pre_omega)
    refine x_lst hkk (atI_neg1 _ _) ?_
    (repeat decreasing_trivial_pre_omega)
    refine m_app hm (by rw [List.length_map]; unfold LIM; omega) ?_
    rw [e6]
    exact q
  | ask r kd =>
    have hdn := ha r kd hat
    rw [hat] at hzq q
    unfold encB at hzq q
    (repeat decreasing_trivial_pre_omega)
    refine x_lst hkk (atI_neg1 _ _) ?_
    (repeat decreasing_trivial_pre_omega)
    refine nin_dct hd rfl ?_
    rw [dU_find, Option.isSome_map, hdn]
    refine i_iff rfl ?_
    (repeat decreasing_trivial_pre_omega)
    refine m_app hm (by rw [List.length_map]; unfold LIM; omega) ?_
    rw [e6]
    exact q
  | put fi c kd =>
    rw [hat] at hzq q
    unfold encB at hzq q
    (repeat decreasing_trivial_pre_omega)
    refine x_lst hkk (atI_neg1 _ _) ?_
    (repeat decreasing_trivial_pre_omega)
    refine m_app hm (by rw [List.length_map]; unfold LIM; omega) ?_
    rw [e6]
    exact q
  | see fi bs =>
    rw [hat] at hzq q
    unfold encB at hzq q
    (repeat decreasing_trivial_pre_omega)
    refine x_lst hkk (atI_neg1 _ _) ?_
    (repeat decreasing_trivial_pre_omega)
    refine m_app hm (by rw [List.length_map]; unfold LIM; omega) ?_
    rw [e6]
    exact q
theorem lpush_ok {fb : Nat} {r : Str} {kd : Bd} (hlb : LBodyF C fb) (hb : BkOk b) (h : LS M A k (zi ++ [(f, z)]) st) (o : Off M0 A0 M A k (zi ++ [(f, z)])) (hs : StOk b st ((zi ++ [(f, z)]).map (·.1))) (hl : st.moves.length < 80000) (hat : f.at_ = .ask r kd) (hzl : zi.length < 80000)
    (hq2 : ∀ M', r ∈ (zi ++ [(f, z)]).map (·.1.rule) → LkAt M' A st → Off M0 A0 M' A k [] → rt (encO (.stuck (((zi ++ [(f, z)]).map (·.1.rule)).drop (((zi ++ [(f, z)]).map (·.1.rule)).idxOf r)))) M')
    (hq3 : ∀ M' bd z' v8 v9, r ∉ (zi ++ [(f, z)]).map (·.1.rule) → b.bodyOf r = some bd → LS M' A k ((zi ++ [(f, z)]) ++ [(⟨r, bd, []⟩, z')]) (mv st r) → Off M0 A0 M' A k ((zi ++ [(f, z)]) ++ [(⟨r, bd, []⟩, z')]) → ct [some (encBk b), u1, some (.ref A.p), u3, some (.ref k), u5, some (.ref z.q), some (encB f.at_), v8, v9, u10, u11] M') :
    wS C (.seq (.asg 8 (.comp [("row", 9)] (.one 9) (.iSeq (.var 4)) .nil (.ix (.var 9) (.int 0)))) (.seq (.ifs (.cmp .isin (.ix (.var 7) (.int 1)) (.var 8)) (.seq (.ret (.tup (.cons (.str "stuck") (.cons (.blt .tuple (.cons (.slice (.var 8) (.mth .index (.var 8) (.cons (.ix (.var 7) (.int 1)) .nil)) .nil) .nil)) .nil)))) .skip) .skip) (.seq (.expr (.mth .append (.var 4) (.cons (.lst (.cons (.ix (.var 7) (.int 1)) (.cons (.call fb (.cons (.var 0) (.cons (.ix (.var 7) (.int 1)) .nil))) (.cons (.lst .nil) (.cons (.dnew false) .nil))))) .nil))) (.seq (.expr (.mth .append (.ix (.var 2) (.int 5)) (.cons (.ix (.var 7) (.int 1)) .nil))) (.seq .cnt .skip)))))
    ⟨nx, rt, bk, ct⟩ [some (encBk b), u1, some (.ref A.p), u3, some (.ref k), u5, some (.ref z.q), some (encB f.at_), u8, u9, u10, u11] M := by
  obtain ⟨t1, t2, t3⟩ := h.top
  have hfo : FmOk b f := hs.fms f (by simp)
  obtain ⟨j, hj⟩ := hfo.at_
  rw [hat] at hj hq3 ⊢
  obtain ⟨bd, hbd⟩ : ∃ bd, b.bodyOf r = some bd := by cases hj with | ask g1 g2 => exact bodyOf_some g1
  obtain ⟨okr, _⟩ := bodyOf_ok2 hb hbd
  have hkk := h.kk
  unfold encB at hq3 ⊢
  (repeat decreasing_trivial_pre_omega)
  refine compL_by (enc := fun y : Fm × FA => U.ref y.2.q) (fun don rest acc M' => M' = M ∧ acc = don.map fun y => .str y.1.rule) (zi ++ [(f, z)]) ⟨rfl, rfl⟩ ?_ ?_
  · intro don x rest acc M' kk e ⟨e1, e2⟩ hk
    subst e1 e2
    have hx := (h.fr x (by rw [← e]; simp)).q
    (repeat decreasing_trivial_pre_omega)
    refine hk _ _ hkk (fun _ => ?_) ⟨rfl, by simp⟩
    have : don.length + rest.length + 1 = (zi ++ [(f, z)]).length := by rw [← e]; simp; omega
    simp only [List.length_append, List.length_singleton] at this
    rw [List.length_map]
    unfold LIM
    omega
  intro acc M' ⟨e1, e2⟩
  subst e1 e2
  intro u hu
  have s1 : Sub M' (um M' u (.lst ((zi ++ [(f, z)]).map fun y => U.str y.1.rule))) := sub_um (Sub.refl _) hu
  have h' := h.keepA (h.ma.sub s1) s1.keep
  have o' := o.keepA (A' := A) s1.keep
  have hu1 : um M' u (.lst ((zi ++ [(f, z)]).map fun y => U.str y.1.rule)) u = some (.lst (((zi ++ [(f, z)]).map (·.1.rule)).map U.str)) := by rw [um_same, List.map_map]; rfl
  generalize um M' u (.lst ((zi ++ [(f, z)]).map fun y => U.str y.1.rule)) = M1 at h' o' hu1 s1 ⊢
  have okn : okL (((zi ++ [(f, z)]).map (·.1.rule)).map U.str) = true := okL_of fun x hx => by
    rw [List.map_map, List.mem_map] at hx
    obtain ⟨y, hy, rfl⟩ := hx
    exact (hs.fms _ (mem_fst hy)).rule
  (repeat decreasing_trivial_pre_omega)
  refine in_lst hu1 okr okn ?_
  by_cases hin : r ∈ (zi ++ [(f, z)]).map (·.1.rule)
  · refine i_ift (decide_eq_true (mem_strs.mpr hin)) ?_
    (repeat decreasing_trivial_pre_omega)
    refine m_index (j := ((zi ++ [(f, z)]).map (·.1.rule)).idxOf r) hu1 okr okn ?_ ?_ ?_
    · rw [List.getElem?_map, List.getElem?_eq_getElem (List.idxOf_lt_length_iff.mpr hin)]
      simp
    · intro m hm2 z2
      rw [List.getElem?_map] at z2
      cases e : ((zi ++ [(f, z)]).map (·.1.rule))[m]? with
      | none => rw [e] at z2; cases z2
      | some y =>
        rw [e] at z2
        have z3 : U.str y = U.str r := Option.some.inj z2
        injection z3 with z3
        rw [z3] at e
        exact idxOf_first m hm2 e
    (repeat decreasing_trivial_pre_omega)
    rw [cutU_drop]
    intro q hq
    (repeat decreasing_trivial_pre_omega)
    rw [← List.map_drop]
    have s2 : Sub M1 (um M1 q (.lst ((((zi ++ [(f, z)]).map (·.1.rule)).drop (((zi ++ [(f, z)]).map (·.1.rule)).idxOf r)).map U.str))) := sub_um (Sub.refl _) hq
    exact hq2 _ hin (h'.ma.sub s2) (o'.keepA (A' := A) s2.keep).nil
  · refine i_iff (decide_eq_false fun z2 => hin (mem_strs.mp z2)) ?_
    have hkk1 := h'.kk
    (repeat decreasing_trivial_pre_omega)
    refine hlb _ b r bd _ hbd ?_
    (repeat decreasing_trivial_pre_omega)
    intro e he
    (repeat decreasing_trivial_pre_omega)
    intro w hw
    (repeat decreasing_trivial_pre_omega)
    intro q hq
    have we : w ≠ e := um_noneN hw
    have hw1 := um_none hw
    have qw : q ≠ w := um_noneN hq
    have hq1' := um_none hq
    have qe : q ≠ e := um_noneN hq1'
    have hq1 := um_none hq1'
    have s2 : Sub M1 (um (um (um M1 e (.lst [])) w (.dct false false [])) q (.lst [.str r, encB bd, .ref e, .ref w])) := sub_um (sub_um (sub_um (Sub.refl _) he) hw1) hq1
    have fz : LrAt (um (um (um M1 e (.lst [])) w (.dct false false [])) q (.lst [.str r, encB bd, .ref e, .ref w])) ⟨q, e, w⟩ ⟨r, bd, []⟩ := by
      refine ⟨?_, um_same, um_oth qe.symm (um_oth we.symm um_same), um_oth qw.symm um_same⟩
      simp [FA.all, qe, qw, we.symm]
    have fresh : ∀ a x, M1 a = some x → a ∉ (⟨q, e, w⟩ : FA).all := fun a x e2 z2 => by
      simp only [FA.all, List.mem_cons, List.not_mem_nil, or_false] at z2
      rcases z2 with rfl | rfl | rfl
      · rw [hq1] at e2; cases e2
      · rw [he] at e2; cases e2
      · rw [hw1] at e2; cases e2
    generalize um (um (um M1 e (.lst [])) w (.dct false false [])) q (.lst [.str r, encB bd, .ref e, .ref w]) = M2 at s2 fz ⊢
    have h2 := h'.keepA (h'.ma.sub s2) s2.keep
    have o2 := o'.keepA (A' := A) s2.keep
    have hkk2 := h2.kk
    (repeat decreasing_trivial_pre_omega)
    refine m_app hkk2 (by rw [List.length_map, List.length_append, List.length_singleton]; unfold LIM; omega) ?_
    have e8 : ((zi ++ [(f, z)]).map fun y => U.ref y.2.q) ++ [U.ref q] = ((zi ++ [(f, z)]) ++ [((⟨r, bd, []⟩ : Fm), (⟨q, e, w⟩ : FA))]).map fun y => U.ref y.2.q := by simp
    rw [e8]
    have hz' : ∀ a ∈ (⟨q, e, w⟩ : FA).all, a ∉ A.all := fun a ha z2 => by
      obtain ⟨x, e⟩ := h'.ma.has z2
      exact fresh a x e ha
    have h3 := h2.push fz hz' (fresh _ _ h'.kk) fun y hy a ha => by
      obtain ⟨x, e⟩ := (h'.fr y hy).has ha
      exact fresh a x e
    have o3 := o2.push (f := ⟨r, bd, []⟩) (z := ⟨q, e, w⟩) (o := .lst (((zi ++ [(f, z)]) ++ [((⟨r, bd, []⟩ : Fm), (⟨q, e, w⟩ : FA))]).map fun y => U.ref y.2.q)) fun a x ha e => fresh a x (o'.old a x ha e).1
    generalize um M2 k (.lst (((zi ++ [(f, z)]) ++ [((⟨r, bd, []⟩ : Fm), (⟨q, e, w⟩ : FA))]).map fun y => U.ref y.2.q)) = M3 at h3 o3 ⊢
    have hp3 := h3.ma.p
    have hm3 := h3.ma.m
    have e1 := h3.ma.setm r
    have K1 : Keep A A M3 (um M3 A.m (.lst ((st.moves ++ [r]).map U.str))) := keep_um (by simp [MA.all, MA.fix])
    have e6 : st.moves.map U.str ++ [U.str r] = (st.moves ++ [r]).map U.str := by simp
    (repeat decreasing_trivial_pre_omega)
    refine m_app hm3 (by rw [List.length_map]; unfold LIM; omega) ?_
    rw [e6]
    (repeat decreasing_trivial_pre_omega)
    exact hq3 _ bd _ _ _ hin hbd (h3.keepA e1 K1) (o3.keepA K1)
theorem ldone_ok {fd : Nat} (hld : LDownF C fd) (hb : BkOk b) (h : LS M A k (zi ++ [(f, z)]) (mv st f.rule)) (o : Off M0 A0 M A k (zi ++ [(f, z)])) (hs : StOk b st ((zi ++ [(f, z)]).map (·.1))) (hl : st.moves.length < 80000) (hat : f.at_ = .done)
    (hq1 : ∀ M' v10, faultM b (mv st f.rule) f.rule (layM f.evs) = none → LS M' A k zi (finM (mv st f.rule) f.rule f.evs) → Off M0 A0 M' A k zi → nx [some (encBk b), u1, some (.ref A.p), u3, some (.ref k), u5, some (.ref z.q), some (encB f.at_), u8, u9, v10, u11] M')
    (hq2 : ∀ M' ou, faultM b (mv st f.rule) f.rule (layM f.evs) = some ou → LkAt M' A (mv st f.rule) → Off M0 A0 M' A k [] → rt (encO ou) M') :
    wS C (.seq (.ifs (.cmp .eq (.ix (.var 7) (.int 0)) (.str "done")) (.seq (.asg 10 (.call fd (.cons (.var 0) (.cons (.var 2) (.cons (.ix (.var 6) (.int 0)) (.cons (.blt .tuple (.cons (.ix (.var 6) (.int 2)) .nil)) .nil)))))) (.seq (.ifs (.notN (.var 10)) (.seq (.ret (.var 10)) .skip) .skip) (.seq (.expr (.mth .pop (.var 4) .nil)) .skip))) S3) .skip)
    ⟨nx, rt, bk, ct⟩ [some (encBk b), u1, some (.ref A.p), u3, some (.ref k), u5, some (.ref z.q), some (encB f.at_), u8, u9, u10, u11] M := by
  obtain ⟨t1, t2, t3⟩ := h.top
  have hzq := t1.q
  have hze := t1.e
  have h1 := hs.conL
  have h2 := hs.ownL
  have h3 := hs.ordL
  have h4 := hs.donL
  rw [List.map_append, List.map_singleton, evsum_snoc] at h1 h2
  dsimp only at h1 h2
  rw [hat] at hzq hq1 ⊢
  unfold encB at hzq hq1 ⊢
  (repeat decreasing_trivial_pre_omega)
  refine hld _ A b (mv st f.rule) _ _ _ hb h.ma (hs.fms f (by simp)).evs (by unfold LIM; omega) (by simp only [mv]; unfold LIM; omega) (by simp only [mv]; unfold LIM; omega) (by simp only [mv]; unfold LIM; omega) (by simp only [mv]; unfold LIM; omega) (fun M' ou hf hM hK => ?_) (fun M' hf hM hK => ?_)
  · have hne := encO_ne ou
    (repeat decreasing_trivial_pre_omega)
    exact hq2 M' ou hf hM (o.keepA hK).nil
  · have r2 := h.keepA hM hK
    have o2 := o.keepA hK
    have hkk := r2.kk
    (repeat decreasing_trivial_pre_omega)
    refine m_pop (us := (zi ++ [(f, z)]).map fun z => U.ref z.2.q) (x := .ref z.q) hkk (by simp) ?_
    rw [show ((zi ++ [(f, z)]).map fun z => U.ref z.2.q).dropLast = zi.map fun z => U.ref z.2.q by simp]
    (repeat decreasing_trivial_pre_omega)
    exact hq1 _ _ hf r2.pop o2.pop
theorem lask_ok {r : Str} {kd : Bd} (h : LS M A k (zi ++ [(f, z)]) (mv st f.rule)) (o : Off M0 A0 M A k (zi ++ [(f, z)])) (hs : StOk b st ((zi ++ [(f, z)]).map (·.1))) (hl : st.moves.length < 80000) (hat : f.at_ = .ask r kd)
    (hq1 : ∀ M', LS M' A k (zi ++ [(⟨f.rule, kd, f.evs ++ [.ask r]⟩, z)]) (mv st f.rule) → Off M0 A0 M' A k (zi ++ [(⟨f.rule, kd, f.evs ++ [.ask r]⟩, z)]) → nx [u0, u1, some (.ref A.p), u3, some (.ref k), u5, some (.ref z.q), some (encB f.at_), u8, u9, u10, u11] M') :
    wS C (.seq (.ifs (.cmp .eq (.ix (.var 7) (.int 0)) (.str "done")) S2 (.seq (.ifs (.cmp .eq (.ix (.var 7) (.int 0)) (.str "ask")) (.seq (.expr (.mth .append (.ix (.var 6) (.int 2)) (.cons (.tup (.cons (.str "ask") (.cons (.ix (.var 7) (.int 1)) .nil))) .nil))) (.seq (.setIx (.var 6) (.int 1) (.ix (.var 7) (.int 2))) .skip)) S3) .skip)) .skip)
    ⟨nx, rt, bk, ct⟩ [u0, u1, some (.ref A.p), u3, some (.ref k), u5, some (.ref z.q), some (encB f.at_), u8, u9, u10, u11] M := by
  obtain ⟨t1, t2, t3⟩ := h.top
  obtain ⟨n1, n2, n3⟩ := t1.ne
  have hzq := t1.q
  have hze := t1.e
  have h1 := hs.conL
  rw [List.map_append, List.map_singleton, evsum_snoc] at h1
  dsimp only at h1
  rw [hat] at hzq hq1 ⊢
  unfold encB at hzq hq1 ⊢
  have hqq : z.q ∈ z.all := by simp [FA.all]
  have hee : z.e ∈ z.all := by simp [FA.all]
  have e7 : f.evs.map encE ++ [.tup [.str "ask", .str r]] = (f.evs ++ [Ev.ask r]).map encE := by simp [encE]
  (repeat decreasing_trivial_pre_omega)
  refine m_app hze (by rw [List.length_map]; unfold LIM; omega) ?_
  rw [e7]
  have hzq2 := um_oth (o := .lst ((f.evs ++ [Ev.ask r]).map encE)) n1 hzq
  (repeat decreasing_trivial_pre_omega)
  have KZ := ((Keep.refl A M).z z.all |>.upd (o := .lst ((f.evs ++ [Ev.ask r]).map encE)) hee).upd (o := .lst [.str f.rule, encB kd, .ref z.e, .ref z.o]) hqq
  have fr : LrAt (um (um M z.e (.lst ((f.evs ++ [Ev.ask r]).map encE))) z.q (.lst [.str f.rule, encB kd, .ref z.e, .ref z.o])) z ⟨f.rule, kd, f.evs ++ [Ev.ask r]⟩ := by
    refine ⟨t1.nd, um_same, um_oth n1.symm um_same, ?_⟩
    rw [layM_snoc]
    exact um_oth n2.symm (um_oth n3.symm t1.o)
  exact hq1 _ (h.go ((h.ma.off (t2 _ hee)).off (t2 _ hqq)) fr KZ) (o.go KZ)
theorem lput_ok {fi : Str} {c : Int} {kd : Bd} (h : LS M A k (zi ++ [(f, z)]) (mv st f.rule)) (o : Off M0 A0 M A k (zi ++ [(f, z)])) (hs : StOk b st ((zi ++ [(f, z)]).map (·.1))) (hl : st.moves.length < 80000) (hat : f.at_ = .put fi c kd)
    (hq1 : ∀ M', LS M' A k (zi ++ [(⟨f.rule, kd, f.evs ++ [.put fi c]⟩, z)]) (mv st f.rule) → Off M0 A0 M' A k (zi ++ [(⟨f.rule, kd, f.evs ++ [.put fi c]⟩, z)]) → nx [u0, u1, some (.ref A.p), u3, some (.ref k), u5, some (.ref z.q), some (encB f.at_), u8, u9, u10, u11] M') :
    wS C (.seq (.ifs (.cmp .eq (.ix (.var 7) (.int 0)) (.str "done")) S2 (.seq (.ifs (.cmp .eq (.ix (.var 7) (.int 0)) (.str "ask")) S3 (.seq (.ifs (.cmp .eq (.ix (.var 7) (.int 0)) (.str "put")) (.seq (.setIx (.ix (.var 6) (.int 3)) (.ix (.var 7) (.int 1)) (.ix (.var 7) (.int 2))) (.seq (.expr (.mth .append (.ix (.var 6) (.int 2)) (.cons (.tup (.cons (.str "put") (.cons (.ix (.var 7) (.int 1)) (.cons (.ix (.var 7) (.int 2)) .nil)))) .nil))) (.seq (.setIx (.var 6) (.int 1) (.ix (.var 7) (.int 3))) .skip))) S4) .skip)) .skip)) .skip)
    ⟨nx, rt, bk, ct⟩ [u0, u1, some (.ref A.p), u3, some (.ref k), u5, some (.ref z.q), some (encB f.at_), u8, u9, u10, u11] M := by
  obtain ⟨t1, t2, t3⟩ := h.top
  obtain ⟨n1, n2, n3⟩ := t1.ne
  have hzq := t1.q
  have hze := t1.e
  have hzo := t1.o
  have h1 := hs.conL
  rw [List.map_append, List.map_singleton, evsum_snoc] at h1
  dsimp only at h1
  have hlay := layM_len f.evs
  rw [hat] at hzq hq1 ⊢
  unfold encB at hzq hq1 ⊢
  have hqq : z.q ∈ z.all := by simp [FA.all]
  have hee : z.e ∈ z.all := by simp [FA.all]
  have hoo : z.o ∈ z.all := by simp [FA.all]
  have e7 : f.evs.map encE ++ [.tup [.str "put", .str fi, .int c]] = (f.evs ++ [Ev.put fi c]).map encE := by simp [encE]
  (repeat decreasing_trivial_pre_omega)
  refine st_dct (x := .str fi) hzo rfl (by rw [dU_len]; unfold LIM; omega) ?_
  rw [dU_put, show kput (layM f.evs) fi c = layM (f.evs ++ [Ev.put fi c]) by rw [layM_snoc]]
  have hzq1 := um_oth (o := .dct false false (dU U.int (layM (f.evs ++ [Ev.put fi c])))) n2 hzq
  have hze1 := um_oth (o := .dct false false (dU U.int (layM (f.evs ++ [Ev.put fi c])))) n3 hze
  (repeat decreasing_trivial_pre_omega)
  refine m_app hze1 (by rw [List.length_map]; unfold LIM; omega) ?_
  rw [e7]
  have hzq2 := um_oth (o := .lst ((f.evs ++ [Ev.put fi c]).map encE)) n1 hzq1
  (repeat decreasing_trivial_pre_omega)
  have KZ := (((Keep.refl A M).z z.all |>.upd (o := .dct false false (dU U.int (layM (f.evs ++ [Ev.put fi c])))) hoo).upd (o := .lst ((f.evs ++ [Ev.put fi c]).map encE)) hee).upd (o := .lst [.str f.rule, encB kd, .ref z.e, .ref z.o]) hqq
  have fr : LrAt (um (um (um M z.o (.dct false false (dU U.int (layM (f.evs ++ [Ev.put fi c]))))) z.e (.lst ((f.evs ++ [Ev.put fi c]).map encE))) z.q (.lst [.str f.rule, encB kd, .ref z.e, .ref z.o])) z ⟨f.rule, kd, f.evs ++ [Ev.put fi c]⟩ :=
    ⟨t1.nd, um_same, um_oth n1.symm um_same, um_oth n2.symm (um_oth n3.symm um_same)⟩
  exact hq1 _ (h.go (((h.ma.off (t2 _ hoo)).off (t2 _ hee)).off (t2 _ hqq)) fr KZ) (o.go KZ)
theorem lsee_ok {fs : Nat} {fi : Str} {bs : List Bd} (hls : LSeenF C fs) (hb : BkOk b) (hw : WdOk b wd) (h : LS M A k (zi ++ [(f, z)]) (mv st f.rule)) (o : Off M0 A0 M A k (zi ++ [(f, z)])) (hs : StOk b st ((zi ++ [(f, z)]).map (·.1))) (hl : st.moves.length < 80000) (hat : f.at_ = .see fi bs)
    (hq1 : ∀ A' M' st' g v11, A'.p = A.p → actM b wd st f = (st', some g) → LS M' A' k (zi ++ [(g, z)]) st' → Off M0 A0 M' A' k (zi ++ [(g, z)]) → nx [some (encBk b), some (.tup (wd.map U.int)), some (.ref A.p), u3, some (.ref k), u5, some (.ref z.q), some (encB f.at_), u8, u9, u10, v11] M')
    (hq2 : ∀ A' M' st', A'.p = A.p → actM b wd st f = (st', none) → LkAt M' A' st' → Off M0 A0 M' A' k [] → rt (encO (.looks (b.heads.idxOf fi))) M') :
    wS C (.seq (.ifs (.cmp .eq (.ix (.var 7) (.int 0)) (.str "done")) S2 (.seq (.ifs (.cmp .eq (.ix (.var 7) (.int 0)) (.str "ask")) S3 (.seq (.ifs (.cmp .eq (.ix (.var 7) (.int 0)) (.str "put")) S4 (.seq (.asg 11 (.call fs (.cons (.var 0) (.cons (.var 1) (.cons (.var 2) (.cons (.var 6) (.cons (.ix (.var 7) (.int 1)) .nil))))))) (.seq (.ifs (.cmp .eq (.var 11) (.neg (.int 2))) (.seq (.ret (.tup (.cons (.str "looks") (.cons (.tidx (.ix (.var 0) (.int 1)) (.ix (.var 7) (.int 1))) .nil)))) .skip) .skip) (.seq (.expr (.mth .append (.ix (.var 6) (.int 2)) (.cons (.tup (.cons (.str "see") (.cons (.ix (.var 7) (.int 1)) (.cons (.var 11) .nil)))) .nil))) (.seq (.setIx (.var 6) (.int 1) (.ix (.ix (.var 7) (.int 2)) (.bin .add (.var 11) (.int 1)))) .skip))))) .skip)) .skip)) .skip)
    ⟨nx, rt, bk, ct⟩ [some (encBk b), some (.tup (wd.map U.int)), some (.ref A.p), u3, some (.ref k), u5, some (.ref z.q), some (encB f.at_), u8, u9, u10, u11] M := by
  obtain ⟨t1, t2, t3⟩ := h.top
  obtain ⟨n1, n2, n3⟩ := t1.ne
  have hfo : FmOk b f := hs.fms f (by simp)
  obtain ⟨j, hbp⟩ := hfo.at_
  rw [hat] at hbp
  have hcr := hs.cont
  have h1 := hs.conL
  have h5 := hs.seeL
  rw [List.map_append, List.map_singleton, evsum_snoc] at h1
  dsimp only at h1
  have hact : actM b wd st f = match kfind (layM f.evs) fi with
    | some c => (mv st f.rule, some ⟨f.rule, bs.getD (c + 1).toNat .done, f.evs ++ [.see fi c]⟩)
    | none => if contentM b wd st fi = -2 then (sn (mv st f.rule) fi f.rule, none)
      else (sn (mv st f.rule) fi f.rule, some ⟨f.rule, bs.getD (contentM b wd st fi + 1).toNat .done, f.evs ++ [.see fi (contentM b wd st fi)]⟩) := by first | (unfold actM; rw [hat]; done) | (unfold actM; rw [hat]; rfl)
  rw [hat] at hq1 ⊢
  unfold encB at hq1 ⊢
  have hqq : z.q ∈ z.all := by simp [FA.all]
  have hee : z.e ∈ z.all := by simp [FA.all]
  -- the tail, for a content in range
  have tail : ∀ (A' : MA) (M' : Hm) (st' : Mst) (c : Int), A'.p = A.p → LS M' A' k (zi ++ [(f, z)]) st' → Off M0 A0 M' A' k (zi ++ [(f, z)]) → -1 ≤ c → c < b.n → actM b wd st f = (st', some ⟨f.rule, bs.getD (c + 1).toNat .done, f.evs ++ [.see fi c]⟩) →
      wS C (.seq (.ifs (.cmp .eq (.var 11) (.neg (.int 2))) (.seq (.ret (.tup (.cons (.str "looks") (.cons (.tidx (.ix (.var 0) (.int 1)) (.ix (.var 7) (.int 1))) .nil)))) .skip) .skip) (.seq (.expr (.mth .append (.ix (.var 6) (.int 2)) (.cons (.tup (.cons (.str "see") (.cons (.ix (.var 7) (.int 1)) (.cons (.var 11) .nil)))) .nil))) (.seq (.setIx (.var 6) (.int 1) (.ix (.ix (.var 7) (.int 2)) (.bin .add (.var 11) (.int 1)))) .skip)))
      ⟨nx, rt, bk, ct⟩ [some (encBk b), some (.tup (wd.map U.int)), some (.ref A.p), u3, some (.ref k), u5, some (.ref z.q), some (.tup [.str "see", .str fi, .tup (encBs bs)]), u8, u9, u10, some (.int c)] M' := fun A' M' st' c g0 g1 g2 g3 g4 g5 => by
    obtain ⟨t1', t2', t3'⟩ := g1.top
    obtain ⟨kk, q1, q2, q3, q4⟩ := see_kid hbp (c := c) g3 g4
    have hzq := t1'.q
    have hze := t1'.e
    rw [hat] at hzq
    unfold encB at hzq
    have hne : ¬ c = -2 := by omega
    have e7 : f.evs.map encE ++ [.tup [.str "see", .str fi, .int c]] = (f.evs ++ [Ev.see fi c]).map encE := by simp [encE]
    (repeat decreasing_trivial_pre_omega)
    refine m_app hze (by rw [List.length_map]; unfold LIM; omega) ?_
    rw [e7]
    have hzq2 := um_oth (o := .lst ((f.evs ++ [Ev.see fi c]).map encE)) n1 hzq
    (repeat decreasing_trivial_pre_omega)
    refine x_tup (v := encB (bs.getD (c + 1).toNat .done)) ?_ ?_
    · rw [encBs_map]
      unfold atI ixN
      have hi := (List.getElem?_eq_some_iff.mp q2).1
      rw [if_pos (by omega), if_pos (by rw [List.length_map]; omega)]
      show (bs.map encB)[(c + 1).toNat]? = _
      rw [List.getElem?_map, q2]
      rfl
    (repeat decreasing_trivial_pre_omega)
    have KZ := ((Keep.refl A' M').z z.all |>.upd (o := .lst ((f.evs ++ [Ev.see fi c]).map encE)) hee).upd (o := .lst [.str f.rule, encB (bs.getD (c + 1).toNat .done), .ref z.e, .ref z.o]) hqq
    have fr : LrAt (um (um M' z.e (.lst ((f.evs ++ [Ev.see fi c]).map encE))) z.q (.lst [.str f.rule, encB (bs.getD (c + 1).toNat .done), .ref z.e, .ref z.o])) z ⟨f.rule, bs.getD (c + 1).toNat .done, f.evs ++ [Ev.see fi c]⟩ := by
      refine ⟨t1.nd, um_same, um_oth n1.symm um_same, ?_⟩
      rw [layM_snoc]
      exact um_oth n2.symm (um_oth n3.symm t1'.o)
    exact hq1 A' _ st' _ _ g0 g5 (g1.go ((g1.ma.off (t2' _ hee)).off (t2' _ hqq)) fr KZ) (g2.go KZ)
  (repeat decreasing_trivial_pre_omega)
  refine hls _ A z f b wd (mv st f.rule) fi _ h.ma hw.len t1 hfo.rule (by show st.seen.length < _; omega) (fun c hk => ?_) (fun A' M' hAp hk hM hK => ?_)
  · obtain ⟨r1, r2⟩ := own_rng hfo hk
    rw [hk] at hact
    exact tail A M _ c rfl h o (by omega) r2 hact
  · have r2 := h.keepA hM hK
    have o2 := o.keepA hK
    have hc : contentM b wd (mv st f.rule) fi = contentM b wd st fi := rfl
    rw [hk] at hact
    rw [hc]
    by_cases h2 : contentM b wd st fi = -2
    · simp only [if_pos h2] at hact
      rw [h2]
      have hin : fi ∈ b.heads := by
        rcases content_rng hw hs.cont fi with h7 | h7 | h7
        · exact h7.2
        · omega
        · omega
      unfold encBk
      (repeat decreasing_trivial_pre_omega)
      refine m_tidx (j := b.heads.idxOf fi) ?_ ?_ ?_
      · rw [List.getElem?_eq_getElem (List.idxOf_lt_length_iff.mpr hin)]
        simp
      · intro m hm z2
        exact idxOf_first m hm z2
      (repeat decreasing_trivial_pre_omega)
      exact hq2 A' _ _ hAp hact hM o2.nil
    · simp only [if_neg h2] at hact
      have hr : -1 ≤ contentM b wd st fi ∧ contentM b wd st fi < b.n := by
        rcases content_rng hw hcr fi with h7 | h7 | h7
        · exact absurd h7.1 h2
        · exact h7
        · have := hb.n0; omega
      exact tail A' M' _ _ hAp r2 o2 hr.1 hr.2 hact
end
end Pl

set_option maxHeartbeats 2000000
/-! the laws' own makings: a goal, make, alone -/
namespace Pl
open PySem L2
def GL (M0 : Hm) (A0 : MA) (k : Addr) (b : Bk) (wd : List Int) (goal : Str) (R : Mst × Option Out) (B : Nat) (m : Nat) (σ : SU) (M : Hm) : Prop := ∃ (A : MA) (zs : List (Fm × FA)) (st : Mst) (u5 u6 u7 u8 u9 u10 u11 : Option U),
  σ = [some (encBk b), some (.tup (wd.map U.int)), some (.ref A.p), some (.str goal), some (.ref k), u5, u6, u7, u8, u9, u10, u11] ∧ A.p = A0.p ∧ LS M A k zs st ∧ Off M0 A0 M A k zs ∧ StOk b st (zs.map (·.1)) ∧ m = mu b st (zs.map (·.1)) ∧ st.moves.length + m ≤ B ∧ (∀ n, m ≤ n → runM b wd n st (zs.map (·.1)) = R)
def lS1 (fb : Nat) : S := (.seq (.asg 8 (.comp [("row", 9)] (.one 9) (.iSeq (.var 4)) .nil (.ix (.var 9) (.int 0)))) (.seq (.ifs (.cmp .isin (.ix (.var 7) (.int 1)) (.var 8)) (.seq (.ret (.tup (.cons (.str "stuck") (.cons (.blt .tuple (.cons (.slice (.var 8) (.mth .index (.var 8) (.cons (.ix (.var 7) (.int 1)) .nil)) .nil) .nil)) .nil)))) .skip) .skip) (.seq (.expr (.mth .append (.var 4) (.cons (.lst (.cons (.ix (.var 7) (.int 1)) (.cons (.call fb (.cons (.var 0) (.cons (.ix (.var 7) (.int 1)) .nil))) (.cons (.lst .nil) (.cons (.dnew false) .nil))))) .nil))) (.seq (.expr (.mth .append (.ix (.var 2) (.int 5)) (.cons (.ix (.var 7) (.int 1)) .nil))) (.seq .cnt .skip)))))
def lS2 (fd : Nat) : S := (.seq (.asg 10 (.call fd (.cons (.var 0) (.cons (.var 2) (.cons (.ix (.var 6) (.int 0)) (.cons (.blt .tuple (.cons (.ix (.var 6) (.int 2)) .nil)) .nil)))))) (.seq (.ifs (.notN (.var 10)) (.seq (.ret (.var 10)) .skip) .skip) (.seq (.expr (.mth .pop (.var 4) .nil)) .skip)))
def lS3 : S := (.seq (.expr (.mth .append (.ix (.var 6) (.int 2)) (.cons (.tup (.cons (.str "ask") (.cons (.ix (.var 7) (.int 1)) .nil))) .nil))) (.seq (.setIx (.var 6) (.int 1) (.ix (.var 7) (.int 2))) .skip))
def lS4 : S := (.seq (.setIx (.ix (.var 6) (.int 3)) (.ix (.var 7) (.int 1)) (.ix (.var 7) (.int 2))) (.seq (.expr (.mth .append (.ix (.var 6) (.int 2)) (.cons (.tup (.cons (.str "put") (.cons (.ix (.var 7) (.int 1)) (.cons (.ix (.var 7) (.int 2)) .nil)))) .nil))) (.seq (.setIx (.var 6) (.int 1) (.ix (.var 7) (.int 3))) .skip)))
def lS5 (fs : Nat) : S := (.seq (.asg 11 (.call fs (.cons (.var 0) (.cons (.var 1) (.cons (.var 2) (.cons (.var 6) (.cons (.ix (.var 7) (.int 1)) .nil))))))) (.seq (.ifs (.cmp .eq (.var 11) (.neg (.int 2))) (.seq (.ret (.tup (.cons (.str "looks") (.cons (.tidx (.ix (.var 0) (.int 1)) (.ix (.var 7) (.int 1))) .nil)))) .skip) .skip) (.seq (.expr (.mth .append (.ix (.var 6) (.int 2)) (.cons (.tup (.cons (.str "see") (.cons (.ix (.var 7) (.int 1)) (.cons (.var 11) .nil)))) .nil))) (.seq (.setIx (.var 6) (.int 1) (.ix (.ix (.var 7) (.int 2)) (.bin .add (.var 11) (.int 1)))) .skip))))
def lGoal (T : S) (fb : Nat) : S := (.seq (.asg 4 (.lst (.cons (.lst (.cons (.var 3) (.cons (.call fb (.cons (.var 0) (.cons (.var 3) .nil))) (.cons (.lst .nil) (.cons (.dnew false) .nil))))) .nil))) (.seq (.expr (.mth .append (.ix (.var 2) (.int 5)) (.cons (.var 3) .nil))) (.seq (.for_ (.one 5) (.iRange (.int 600)) (.seq (.ifs (.not (.var 4)) (.seq .brk .skip) .skip) T)) (.seq (.ret (.tup (.cons (.str "done") .nil))) .skip))))
theorem lGoal_eq (fd fs fb : Nat) : B_law_make_goal fd fs fb = lGoal (lTurn (lS1 fb) (lS2 fd) lS3 lS4 (lS5 fs)) fb := rfl
theorem lturn_ok {C : CE} {fd fs fb : Nat} (hld : LDownF C fd) (hls : LSeenF C fs) (hlb : LBodyF C fb) {nx bk ct : SU → Hm → Prop} {rt : QU} {M M0 : Hm} {A0 A : MA} {b : Bk} {wd : List Int} {goal : Str} {R : Mst × Option Out} {B m : Nat} {k : Addr} {zi : List (Fm × FA)} {f : Fm} {z : FA} {st : Mst} {u5 u6 u7 u8 u9 u10 u11 : Option U} (hb : BkOk b) (hw : WdOk b wd) (hB : B < 80000)
    (e2 : A.p = A0.p) (r : LS M A k (zi ++ [(f, z)]) st) (o : Off M0 A0 M A k (zi ++ [(f, z)])) (so : StOk b st ((zi ++ [(f, z)]).map (·.1))) (e3 : m = mu b st ((zi ++ [(f, z)]).map (·.1))) (e4 : st.moves.length + m ≤ B) (hr : ∀ n, m ≤ n → runM b wd n st ((zi ++ [(f, z)]).map (·.1)) = R)
    (hn : ∀ σ' M', (∃ m', m' < m ∧ GL M0 A0 k b wd goal R B m' σ' M') → nx σ' M') (hc : ∀ σ' M', (∃ m', m' < m ∧ GL M0 A0 k b wd goal R B m' σ' M') → ct σ' M')
    (hq : ∀ A' M' st' ou, R = (st', some ou) → A'.p = A0.p → LkAt M' A' st' → Keep A0 A' M0 M' → StOk b st' [] → st'.moves.length ≤ B → okU (encO ou) = true → rt (encO ou) M') :
    wS C (lTurn (lS1 fb) (lS2 fd) lS3 lS4 (lS5 fs)) ⟨nx, rt, bk, ct⟩ [some (encBk b), some (.tup (wd.map U.int)), some (.ref A.p), some (.str goal), some (.ref k), u5, u6, u7, u8, u9, u10, u11] M := by
  have hsl := @stack_len b st (zi ++ [(f, z)])
  have hmz : (zi ++ [(f, z)]).map (·.1) = zi.map (·.1) ++ [f] := by simp
  have mpos := @mu_pos b st (zi.map (·.1)) f
  have hml : st.moves.length < 80000 := by omega
  have hsl2 : zi.length < 80000 := by rw [List.length_append, List.length_singleton] at hsl; omega
  rw [hmz] at hr e3
  have fin : ∀ (A2 : MA) (M2 : Hm) (zs2 : List (Fm × FA)) (s2 : Mst) (v5 v6 v7 v8 v9 v10 v11 : Option U), A2.p = A.p → LS M2 A2 k zs2 s2 → Off M0 A0 M2 A2 k zs2 → stepM b wd st (zi.map (·.1)) f = .inl (s2, zs2.map (·.1)) →
      ∃ m', m' < m ∧ GL M0 A0 k b wd goal R B m' [some (encBk b), some (.tup (wd.map U.int)), some (.ref A.p), some (.str goal), some (.ref k), v5, v6, v7, v8, v9, v10, v11] M2 := fun A2 M2 zs2 s2 v5 v6 v7 v8 v9 v10 v11 g1 g2 g3 g4 => by
    have ms := mu_step g4
    refine ⟨mu b s2 (zs2.map (·.1)), by omega, A2, zs2, s2, v5, v6, v7, v8, v9, v10, v11, by rw [g1], by rw [g1]; exact e2, g2, g3, ?_, rfl, by omega, run_next g4 (by rw [← e3]; exact hr)⟩
    rw [hmz] at so
    exact so.step hb hw g4
  have out : ∀ (A2 : MA) (M2 : Hm) (s2 : Mst) (ou : Out), A2.p = A.p → LkAt M2 A2 s2 → Off M0 A0 M2 A2 k [] → StOk b s2 [] → s2.moves.length ≤ st.moves.length + 1 → stepM b wd st (zi.map (·.1)) f = .inr (s2, ou) → okU (encO ou) = true → rt (encO ou) M2 := fun A2 M2 s2 ou g1 g2 g3 g4 g5 g6 g7 => by
    have hR := run_out g6 (by rw [← e3]; exact hr)
    exact hq A2 M2 s2 ou hR (by rw [g1]; exact e2) g2 g3.keep g4 (by omega) g7
  have okf := (so.fms f (by rw [hmz]; simp)).rule
  have sd := so.drop
  have hrl : ((zi ++ [(f, z)]).map (·.1.rule)) = (zi.map (·.1) ++ [f]).map (·.rule) := by simp [List.map_map]
  cases hat : f.at_ with
  | done =>
    refine ld_rest r o hml (by rw [hat]; intro r kd z2; cases z2) fun M1 r1 o1 => ?_
    refine ldone_ok hld hb r1 o1 so hml hat (fun M2 v10 hf g1 g2 => ?_) (fun M2 ou hf g1 g2 => ?_)
    · exact hn _ _ (fin A M2 zi _ _ _ _ _ _ _ _ rfl g1 g2 (by unfold stepM; simp only [hat, hf]))
    · exact out A M2 _ ou rfl g1 g2 (sd.mv0 okf) (by simp [mv]) (by unfold stepM; simp only [hat, hf]) (fault_okU hb hf okf (fun p hp => (so.fms f (by rw [hmz]; simp)).evs _ (layM_mem hp)) (fun p hp => (so.ownS p hp).2))
  | ask rr kd =>
    by_cases hf : (kfind st.done rr).isSome = true
    · refine ld_rest r o hml (by rw [hat]; intro r kd z2; cases z2; exact hf) fun M1 r1 o1 => ?_
      refine lask_ok r1 o1 so hml hat fun M2 g1 g2 => ?_
      exact hn _ _ (fin A M2 _ _ _ _ _ _ _ _ _ rfl g1 g2 (by unfold stepM; simp only [hat, if_pos hf]; simp))
    · refine ld_push r hat hf fun nx' => ?_
      refine lpush_ok hlb hb r o so hml hat hsl2 (fun M2 hin g1 g2 => ?_) (fun M2 bd2 z' v8 v9 hin hb2 g1 g2 => ?_)
      · rw [hrl] at hin ⊢
        exact out A M2 _ _ rfl g1 g2 sd (by omega) (by unfold stepM; simp only [hat, if_neg hf, if_pos hin]) (stuck_okU fun s hs2 => by
          obtain ⟨g, hg, rfl⟩ := List.mem_map.mp (List.mem_of_mem_drop hs2)
          exact (so.fms g (by rw [hmz]; exact hg)).rule)
      · rw [hrl] at hin
        exact hc _ _ (fin A M2 _ _ _ _ _ _ _ _ _ rfl g1 g2 (by unfold stepM; simp only [hat, if_neg hf, if_neg hin, hb2]; simp))
  | put fi c kd =>
    have hd : f.at_ ≠ .done := by rw [hat]; intro z2; cases z2
    have ha : ∀ r k, f.at_ ≠ .ask r k := fun r k => by rw [hat]; intro z2; cases z2
    refine ld_rest r o hml (fun r kd z2 => absurd z2 (ha r kd)) fun M1 r1 o1 => ?_
    refine lput_ok r1 o1 so hml hat fun M2 g1 g2 => ?_
    exact hn _ _ (fin A M2 _ _ _ _ _ _ _ _ _ rfl g1 g2 (by unfold stepM; simp only [hat]; simp))
  | see fi bs =>
    have hd : f.at_ ≠ .done := by rw [hat]; intro z2; cases z2
    have ha : ∀ r k, f.at_ ≠ .ask r k := fun r k => by rw [hat]; intro z2; cases z2
    refine ld_rest r o hml (fun r kd z2 => absurd z2 (ha r kd)) fun M1 r1 o1 => ?_
    refine lsee_ok hls hb hw r1 o1 so hml hat (fun A2 M2 s2 g v11 g0 g1 g2 g3 => ?_) (fun A2 M2 s2 g0 g1 g2 g3 => ?_)
    · rcases stepM_act (b := b) (wd := wd) (st := st) (init := zi.map (·.1)) hd ha with ⟨q1, q2, q3, q4⟩ | ⟨q1, q2, q3, q4, _⟩
      · rw [g1] at q3; cases q3
        exact hn _ _ (fin A2 M2 _ _ _ _ _ _ _ _ _ g0 g2 g3 (by rw [q4]; simp))
      · rw [g1] at q4; cases q4
    · rcases stepM_act (b := b) (wd := wd) (st := st) (init := zi.map (·.1)) hd ha with ⟨q1, q2, q3, q4⟩ | ⟨q1, q2, q3, q4, q5, q6, q7, q8⟩
      · rw [g1] at q3; cases q3
      · rw [g1] at q4; cases q4
        rw [hat] at q5
        cases q5
        subst q7
        exact out A2 M2 _ _ g0 g2 g3 (sd.sn0 okf) (by simp [sn, mv]) q8 (by simp [encO, okU, U.ok]; decide +kernel)
theorem lgoal_ok {C : CE} {fd fs fb : Nat} (hld : LDownF C fd) (hls : LSeenF C fs) (hlb : LBodyF C fb) {nx bk ct : SU → Hm → Prop} {rt : QU} {M : Hm} {A : MA} {b : Bk} {wd : List Int} {st : Mst} {goal : Str} {bd : Bd} (hb : BkOk b) (hw : WdOk b wd) (h : LkAt M A st) (hs : StOk b st []) (hbd : b.bodyOf goal = some bd) (hB : st.moves.length + 1 + mb b < 80000) (hmb : mb b ≤ 600)
    (hq : ∀ A' M' st' ou, goalM b wd st goal = (st', ou) → A'.p = A.p → LkAt M' A' st' → Keep A A' M M' → StOk b st' [] → st'.moves.length ≤ st.moves.length + 1 + mb b → okU (outO ou) = true → rt (outO ou) M') :
    wS C (B_law_make_goal fd fs fb) ⟨nx, rt, bk, ct⟩ (startU 12 [encBk b, .tup (wd.map U.int), .ref A.p, .str goal]) M := by
  have okg := (bodyOf_ok2 hb hbd).1
  have obd := (bodyOf_ok2 hb hbd).2
  rw [lGoal_eq]
  generalize hT : lTurn (lS1 fb) (lS2 fd) lS3 lS4 (lS5 fs) = T
  unfold lGoal
  (repeat decreasing_trivial_pre_omega)
  refine hlb _ b goal bd _ hbd ?_
  (repeat decreasing_trivial_pre_omega)
  intro e he
  (repeat decreasing_trivial_pre_omega)
  intro w hw0
  (repeat decreasing_trivial_pre_omega)
  intro q hq0
  (repeat decreasing_trivial_pre_omega)
  intro k hk
  have we : w ≠ e := um_noneN hw0
  have hw1 := um_none hw0
  have qw : q ≠ w := um_noneN hq0
  have hq1' := um_none hq0
  have qe : q ≠ e := um_noneN hq1'
  have hq1 := um_none hq1'
  have kq : k ≠ q := um_noneN hk
  have hk1 := um_none hk
  have kw : k ≠ w := um_noneN hk1
  have hk2 := um_none hk1
  have ke : k ≠ e := um_noneN hk2
  have hk3 := um_none hk2
  have s2 : Sub M (um (um (um (um M e (.lst [])) w (.dct false false [])) q (.lst [.str goal, encB bd, .ref e, .ref w])) k (.lst [.ref q])) := sub_um (sub_um (sub_um (sub_um (Sub.refl _) he) hw1) hq1) hk3
  have fz : LrAt (um (um (um (um M e (.lst [])) w (.dct false false [])) q (.lst [.str goal, encB bd, .ref e, .ref w])) k (.lst [.ref q])) ⟨q, e, w⟩ ⟨goal, bd, []⟩ := by
    refine ⟨?_, um_oth kq.symm um_same, um_oth ke.symm (um_oth qe.symm (um_oth we.symm um_same)), um_oth kw.symm (um_oth qw.symm um_same)⟩
    simp [FA.all, qe, qw, we.symm]
  have fk : um (um (um (um M e (.lst [])) w (.dct false false [])) q (.lst [.str goal, encB bd, .ref e, .ref w])) k (.lst [.ref q]) k = some (.lst [.ref q]) := um_same
  have fresh : ∀ a x, M a = some x → a ∉ (⟨q, e, w⟩ : FA).all ∧ a ≠ k := fun a x e2 => by
    refine ⟨fun z2 => ?_, fun z2 => ?_⟩
    · simp only [FA.all, List.mem_cons, List.not_mem_nil, or_false] at z2
      rcases z2 with rfl | rfl | rfl
      · rw [hq1] at e2; cases e2
      · rw [he] at e2; cases e2
      · rw [hw1] at e2; cases e2
    · rw [z2, hk3] at e2; cases e2
  have kz : k ∉ (⟨q, e, w⟩ : FA).all := fun z2 => by
    simp only [FA.all, List.mem_cons, List.not_mem_nil, or_false] at z2
    rcases z2 with z2 | z2 | z2
    · exact kq z2
    · exact ke z2
    · exact kw z2
  generalize um (um (um (um M e (.lst [])) w (.dct false false [])) q (.lst [.str goal, encB bd, .ref e, .ref w])) k (.lst [.ref q]) = M1 at s2 fz fk ⊢
  have h1 := h.sub s2
  have hp1 := h1.p
  have hm1 := h1.m
  have e1 := h1.setm goal
  have K1 : Keep A A M1 (um M1 A.m (.lst ((st.moves ++ [goal]).map U.str))) := keep_um (by simp [MA.all, MA.fix])
  have e6 : st.moves.map U.str ++ [U.str goal] = (st.moves ++ [goal]).map U.str := by simp
  have rs0 : LS M1 A k [(⟨goal, bd, []⟩, ⟨q, e, w⟩)] st := ⟨h1, fun y hy => by rw [List.mem_singleton] at hy; subst hy; exact fz, fk, fun z2 => by
      obtain ⟨x, e⟩ := h.has z2
      exact (fresh _ _ e).2 rfl, fun y hy => by rw [List.mem_singleton] at hy; subst hy; exact kz, fun y hy a ha z2 => by
    rw [List.mem_singleton] at hy; subst hy
    obtain ⟨x, e⟩ := h.has z2
    exact (fresh a x e).1 ha, List.pairwise_singleton _ _⟩
  have off0 : Off M A M1 A k [((⟨goal, bd, []⟩ : Fm), (⟨q, e, w⟩ : FA))] := ⟨fun a x ha e => ⟨s2 _ _ e, ha, (fresh a x e).2, fun y hy => by rw [List.mem_singleton] at hy; subst hy; exact (fresh a x e).1⟩⟩
  (repeat decreasing_trivial_pre_omega)
  refine m_app hm1 (by rw [List.length_map]; unfold LIM; omega) ?_
  rw [e6]
  have rs := rs0.keepA e1 K1
  have off := off0.keepA K1
  have s0 : StOk b (mv st goal) [⟨goal, bd, []⟩] := by
    have s1 := hs.mv0 okg
    refine ⟨fun g hg => ?_, s1.cont, ?_, ?_, s1.ordL, s1.donL, s1.seeL, s1.done, s1.ownS, s1.ordS, s1.movS, s1.agree⟩
    · rw [List.mem_singleton] at hg; subst hg; exact ⟨okg, obd, (by simp), (by simp)⟩
    · exact s1.conL
    · exact s1.ownL
  have hmu := mu_one (st := mv st goal) hbd
  have hgoal : goalM b wd st goal = runM b wd (mu b (mv st goal) [⟨goal, bd, []⟩]) (mv st goal) [⟨goal, bd, []⟩] := by
    unfold goalM
    rw [hbd]
  (repeat decreasing_trivial_pre_omega)
  refine ⟨by simp [LIM], by simp [LIM], ?_⟩
  rw [show (600 : Int) = ((600 : Nat) : Int) from rfl, rngU_nat]
  refine forL_by (enc := fun i : Nat => U.int (i : Nat)) (fun don rest σ M' => ∃ m, GL M A k b wd goal (goalM b wd st goal) (st.moves.length + 1 + mb b) m σ M' ∧ m + don.length ≤ mb b) (List.range 600) ⟨_, ⟨A, [(⟨goal, bd, []⟩, ⟨q, e, w⟩)], mv st goal, _, _, _, _, _, _, _, rfl, rfl, rs, off, s0, rfl, by rw [show (mv st goal).moves.length = st.moves.length + 1 by simp [mv]]; simp only [List.map_cons, List.map_nil]; omega, fun n hn => by rw [hgoal]; exact runM_enough _ _ _ _ (Nat.le_refl _) hn⟩, by simpa using hmu⟩ ?_ ?_
  · intro don i rest σ M' kk e ⟨m, ⟨A', zs, s', u5, u6, u7, u8, u9, u10, u11, e1, e2, r, o, so, e3, e4, hr⟩, e5⟩ hk
    subst e1
    rcases List.eq_nil_or_concat zs with rfl | ⟨zi, fz, rfl⟩
    · have hkk := r.kk
      (repeat decreasing_trivial_pre_omega)
      have hR := hr m (Nat.le_refl _)
      rw [show ([] : List (Fm × FA)).map (·.1) = [] from rfl, runM_nil] at hR
      exact hq A' M' s' none hR.symm e2 r.ma o.keep so (by omega) (by decide +kernel)
    · rw [List.concat_eq_append] at *
      obtain ⟨f, z⟩ := fz
      have hkk : M' k = some (.lst ((zi.map fun z => U.ref z.2.q) ++ [U.ref z.q])) := by rw [r.kk, List.map_append]; rfl
      have hnn : ¬ (zi.map fun z => U.ref z.2.q) ++ [U.ref z.q] = [] := by simp
      (repeat decreasing_trivial_pre_omega)
      subst hT
      have go : ∀ σ' M2, (∃ m', m' < m ∧ GL M A k b wd goal (goalM b wd st goal) (st.moves.length + 1 + mb b) m' σ' M2) → kk σ' M2 := fun σ' M2 ⟨m', g1, g2⟩ => hk σ' M2 trivial ⟨m', g2, by rw [List.length_append, List.length_singleton]; omega⟩
      refine lturn_ok hld hls hlb hb hw hB e2 r o so e3 e4 hr go go fun A2 M2 s2 ou g1 g2 g3 g4 g5 g6 g7 => ?_
      exact hq A2 M2 s2 (some ou) g1 g2 g3 g4 g5 g6 g7
  · intro σ M' ⟨m, ⟨A', zs, s', u5, u6, u7, u8, u9, u10, u11, e1, e2, r, o, so, e3, e4, hr⟩, e5⟩
    subst e1
    rw [List.length_range] at e5
    rcases List.eq_nil_or_concat zs with rfl | ⟨zi, fz, rfl⟩
    · (repeat decreasing_trivial_pre_omega)
      have hR := hr m (Nat.le_refl _)
      rw [show ([] : List (Fm × FA)).map (·.1) = [] from rfl, runM_nil] at hR
      exact hq A' M' s' none hR.symm e2 r.ma o.keep so (by omega) (by decide +kernel)
    · obtain ⟨f, z⟩ := fz
      rw [List.concat_eq_append, List.map_append, List.map_singleton] at e3
      have mpos := @mu_pos b s' (zi.map (·.1)) f
      dsimp only at e3
      omega
def LGoalF (C : CE) (g : Nat) : Prop := ∀ (M : Hm) (A : MA) (b : Bk) (wd : List Int) (st : Mst) (goal : Str) (bd : Bd) (Q : QU), BkOk b → WdOk b wd → LkAt M A st → StOk b st [] → b.bodyOf goal = some bd → st.moves.length + 1 + mb b < 80000 → mb b ≤ 600 →
  (∀ A' M' st' ou, goalM b wd st goal = (st', ou) → A'.p = A.p → LkAt M' A' st' → Keep A A' M M' → StOk b st' [] → st'.moves.length ≤ st.moves.length + 1 + mb b → okU (outO ou) = true → Q (outO ou) M') → C g [encBk b, .tup (wd.map U.int), .ref A.p, .str goal] M Q
end Pl

set_option maxHeartbeats 2000000
/-! the laws' own makings: make, alone -/
namespace Pl
open PySem L2
theorem outO_eq {o : Out} : encO o ≠ .tup [.str "done"] := outO_ne o
/-- is it ("done",)? -/
theorem eq_done {ou : Option Out} {M : Hm} {R : Bool → Hm → Prop} (ho : okU (outO ou) = true) (q : R ou.isNone M) : eqW (outO ou) (.tup [.str "done"]) M R := by
  cases ou with
  | none =>
    refine eq_tup (by decide +kernel) (by decide +kernel) ?_
    have e : decide ((outO none) = U.tup [U.str "done"]) = true := decide_eq_true rfl
    exact q
  | some o =>
    have hne := outO_ne o
    have e2 : ∃ l, encO o = .tup l := by cases o <;> exact ⟨_, rfl⟩
    obtain ⟨l, el⟩ := e2
    show eqW (encO o) _ _ _
    have ho' : okU (encO o) = true := ho
    rw [el] at ho' hne ⊢
    refine eq_tup ho' (by decide +kernel) ?_
    have e : decide (U.tup l = U.tup [U.str "done"]) = false := decide_eq_false hne
    rw [e]
    exact q
def goM (b : Bk) (wd : List Int) (st : Mst) (ou : Option Out) (gs : List Str) : Mst × Option Out := match ou with
  | none => goalsM b wd st gs
  | some o => (st, some o)
theorem lmake_ok {C : CE} {fg : Nat} (hg : LGoalF C fg) {nx bk ct : SU → Hm → Prop} {rt : QU} {M : Hm} {b : Bk} {wd : List Int} {gs : List Str} (hb : BkOk b) (hw : WdOk b wd) (hgs : ∀ g ∈ gs, g ∈ b.names) (hB : gs.length * (1 + mb b) < 80000) (hmb : mb b ≤ 600)
    (hq : ∀ M', Sub M M' → StOk b (goalsM b wd {} gs).1 [] → okU (outO (goalsM b wd {} gs).2) = true → rt (makeU b wd gs) M') : wS C (B_law_make fg) ⟨nx, rt, bk, ct⟩ (startU 10 [encBk b, .tup (wd.map U.int), .tup (gs.map U.str)]) M := by
  unfold B_law_make
  (repeat decreasing_trivial_pre_omega)
  intro d hd
  (repeat decreasing_trivial_pre_omega)
  intro c hc
  (repeat decreasing_trivial_pre_omega)
  intro w hw2
  (repeat decreasing_trivial_pre_omega)
  intro s hs2
  (repeat decreasing_trivial_pre_omega)
  intro r hr
  (repeat decreasing_trivial_pre_omega)
  intro m hm
  (repeat decreasing_trivial_pre_omega)
  intro p hp
  have d0 := hd
  have c1 := um_none hc
  have ncd := um_noneN hc
  have nwc := um_noneN hw2
  have w1 := um_none hw2
  have nwd := um_noneN w1
  have w0 := um_none w1
  have nsw := um_noneN hs2
  have s1 := um_none hs2
  have nsc := um_noneN s1
  have s1 := um_none s1
  have nsd := um_noneN s1
  have s0 := um_none s1
  have nrs := um_noneN hr
  have r1 := um_none hr
  have nrw := um_noneN r1
  have r1 := um_none r1
  have nrc := um_noneN r1
  have r1 := um_none r1
  have nrd := um_noneN r1
  have r0 := um_none r1
  have nmr := um_noneN hm
  have m1 := um_none hm
  have nms := um_noneN m1
  have m1 := um_none m1
  have nmw := um_noneN m1
  have m1 := um_none m1
  have nmc := um_noneN m1
  have m1 := um_none m1
  have nmd := um_noneN m1
  have m0 := um_none m1
  have npm := um_noneN hp
  have p1 := um_none hp
  have npr := um_noneN p1
  have p1 := um_none p1
  have nps := um_noneN p1
  have p1 := um_none p1
  have npw := um_noneN p1
  have p1 := um_none p1
  have npc := um_noneN p1
  have p1 := um_none p1
  have npd := um_noneN p1
  have p0 := um_none p1
  have sub1 : Sub M (um (um (um (um (um (um (um M d (.dct false false [])) c (.dct false false [])) w (.dct false false [])) s (.dct false false [])) r (.lst [])) m (.lst [])) p (.lst [.ref d, .ref c, .ref w, .ref s, .ref r, .ref m])) :=
    sub_um (sub_um (sub_um (sub_um (sub_um (sub_um (sub_um (Sub.refl _) d0) c1) w0) s0) r0) m0) p0
  have mk : LkAt (um (um (um (um (um (um (um M d (.dct false false [])) c (.dct false false [])) w (.dct false false [])) s (.dct false false [])) r (.lst [])) m (.lst [])) p (.lst [.ref d, .ref c, .ref w, .ref s, .ref r, .ref m])) ⟨p, d, r, w, c, s, m, []⟩ {} := by
    refine ⟨?_, um_same, ?_, ?_, ?_, ?_, ?_, ?_, fun x hx => (by cases hx), fun x hx => (by cases hx), Nat.le_refl _, List.nodup_nil⟩
    · simp only [MA.all, MA.fix, List.map_nil, List.append_nil, List.nodup_cons, List.mem_cons, List.not_mem_nil, or_false, not_or, List.nodup_nil, and_true, not_false_eq_true]
      exact ⟨⟨npd, npr, npw, npc, nps, npm⟩, ⟨nrd.symm, nwd.symm, ncd.symm, nsd.symm, nmd.symm⟩, ⟨nrw, nrc, nrs, nmr.symm⟩, ⟨nwc, nsw.symm, nmw.symm⟩, ⟨nsc.symm, nmc.symm⟩, nms.symm⟩
    · show um _ _ _ d = some (.dct false false [])
      repeat (first | exact um_same | refine um_oth (by first | assumption | exact Ne.symm (by assumption)) ?_)
    · show um _ _ _ r = some (.lst [])
      repeat (first | exact um_same | refine um_oth (by first | assumption | exact Ne.symm (by assumption)) ?_)
    · show um _ _ _ w = some (.dct false false [])
      repeat (first | exact um_same | refine um_oth (by first | assumption | exact Ne.symm (by assumption)) ?_)
    · show um _ _ _ c = some (.dct false false [])
      repeat (first | exact um_same | refine um_oth (by first | assumption | exact Ne.symm (by assumption)) ?_)
    · show um _ _ _ s = some (.dct false false [])
      repeat (first | exact um_same | refine um_oth (by first | assumption | exact Ne.symm (by assumption)) ?_)
    · show um _ _ _ m = some (.lst [])
      repeat (first | exact um_same | refine um_oth (by first | assumption | exact Ne.symm (by assumption)) ?_)
  have fr : ∀ a ∈ (⟨p, d, r, w, c, s, m, []⟩ : MA).all, M a = none := fun a ha => by
    simp only [MA.all, MA.fix, List.map_nil, List.append_nil, List.mem_cons, List.not_mem_nil, or_false] at ha
    rcases ha with rfl | rfl | rfl | rfl | rfl | rfl | rfl <;> assumption
  generalize um (um (um (um (um (um (um M d (.dct false false [])) c (.dct false false [])) w (.dct false false [])) s (.dct false false [])) r (.lst [])) m (.lst [])) p (.lst [.ref d, .ref c, .ref w, .ref s, .ref r, .ref m]) = M1 at sub1 mk ⊢
  have hA : p = (⟨p, d, r, w, c, s, m, []⟩ : MA).p := rfl
  generalize (⟨p, d, r, w, c, s, m, []⟩ : MA) = A at mk fr hA
  subst hA
  clear hp hm hr hs2 hw2 hc hd
  (repeat decreasing_trivial_pre_omega)
  refine forL_by (enc := U.str) (fun don rest σ M' => ∃ A' s' ou u5, σ = [some (encBk b), some (.tup (wd.map U.int)), some (.tup (gs.map U.str)), some (.ref A.p), some (outO ou), u5, none, none, none, none] ∧ A'.p = A.p ∧ LkAt M' A' s' ∧ Keep A A' M1 M' ∧ StOk b s' [] ∧ s'.moves.length ≤ don.length * (1 + mb b) ∧ okU (outO ou) = true ∧ goalsM b wd {} gs = goM b wd s' ou rest) gs ⟨A, {}, none, _, rfl, rfl, mk, Keep.refl _ _, st0 b, by simp, by decide +kernel, rfl⟩ ?_ ?_
  · intro don x rest σ M' k e ⟨A', s', ou, u5, e1, e2, e3, e4, e5, e6, eo, e7⟩ hk
    subst e1
    have hp := e3.p
    have hd := e3.d
    rw [e2] at hp
    have hlen : don.length + rest.length + 1 = gs.length := by rw [← e]; simp; omega
    have hmul : (don.length + 1) * (1 + mb b) ≤ gs.length * (1 + mb b) := Nat.mul_le_mul_right _ (by omega)
    rw [Nat.succ_mul] at hmul
    have skip : goalsM b wd {} gs = goM b wd s' ou rest → k [some (encBk b), some (.tup (wd.map U.int)), some (.tup (gs.map U.str)), some (.ref A.p), some (outO ou), some (.str x), none, none, none, none] M' := fun e8 =>
      hk _ _ trivial ⟨A', s', ou, _, rfl, e2, e3, e4, e5, by rw [List.length_append, List.length_singleton, Nat.succ_mul]; omega, eo, e8⟩
    (repeat decreasing_trivial_pre_omega)
    refine nin_dct hd rfl ?_
    rw [dU_find, Option.isSome_map]
    by_cases hdn : (kfind s'.done x).isSome = true
    · rw [hdn]
      refine i_iff rfl ?_
      (repeat decreasing_trivial_pre_omega)
      refine skip ?_
      rw [e7]
      cases ou with
      | none => unfold goM; dsimp only; rw [goalsM_cons, if_pos hdn]
      | some o => rfl
    · rw [show (kfind s'.done x).isSome = false by simpa using hdn]
      refine i_ift rfl ?_
      (repeat decreasing_trivial_pre_omega)
      refine eq_done eo ?_
      cases ou with
      | some o =>
        refine i_iff rfl ?_
        (repeat decreasing_trivial_pre_omega)
        exact skip e7
      | none =>
        refine i_ift rfl ?_
        unfold goM at e7
        dsimp only at e7
        rw [goalsM_cons, if_neg hdn] at e7
        obtain ⟨bd, hbd⟩ := bodyOf_some (hgs x (by rw [← e]; simp))
        (repeat decreasing_trivial_pre_omega)
        rw [← e2]
        refine hg _ A' b wd s' x bd _ hb hw e3 e5 hbd (by omega) hmb fun A2 M2 s2 ou g1 g2 g3 g4 g5 g6 g7 => ?_
        rw [g1] at e7
        (repeat decreasing_trivial_pre_omega)
        refine hk _ _ trivial ⟨A2, s2, ou, _, (by rw [e2]; rfl), g2.trans e2, g3, e4.trans g4, g5, by rw [List.length_append, List.length_singleton, Nat.succ_mul]; omega, g7, ?_⟩
        rw [e7]
        cases ou <;> rfl
  · intro σ M' ⟨A', s', ou, u5, e1, e2, e3, e4, e5, e6, eo, e7⟩
    subst e1
    have hres : goalsM b wd {} gs = (s', ou) := by rw [e7]; cases ou <;> rfl
    have s2 : Sub M M' := fun a x e => e4.old a x (fun z => by rw [fr a z] at e; cases e) (sub1 a x e)
    rw [hres] at hq
    have hmk : makeU b wd gs = .tup [outO ou, laidU s', tracesU s', .tup (s'.moves.map U.str)] := by unfold makeU; rw [hres]
    rw [hmk] at hq
    have hp := e3.p
    have hw3 := e3.w
    have hc3 := e3.c
    rw [e2] at hp
    have hol := e5.ownL
    have hrl := e5.ordL
    have hml : s'.moves.length < 80000 := by omega
    (repeat decreasing_trivial_pre_omega)
    refine f_sortD hw3 ?_ ?_
    · rw [dU_keys]
      refine sortOk_strs (fun s hs' => ?_) (by rw [List.length_map]; unfold LIM; omega)
      obtain ⟨p, hp', rfl⟩ := List.mem_map.mp hs'
      exact (e5.ownS p hp').1
    intro q hq0
    rw [dU_keys, ← sortS_map]
    have hpq := um_old (o := .lst ((sortS (s'.owners.map (·.1))).map U.str)) hp hq0
    (repeat decreasing_trivial_pre_omega)
    refine compL_by (enc := U.str) (fun don rest acc M2 => M2 = um M' q (.lst ((sortS (s'.owners.map (·.1))).map U.str)) ∧ acc = don.map fun f => .tup [.str f, .int ((kfind s'.cont f).getD 0), .str ((kfind s'.owners f).getD "")]) (sortS (s'.owners.map (·.1))) ⟨rfl, rfl⟩ ?_ ?_
    · intro don x rest acc M2 k e ⟨e1, e2'⟩ hk
      subst e1 e2'
      have hx : x ∈ s'.owners.map (·.1) := sortS_mem.mp (by rw [← e]; simp)
      have hx2 : x ∈ s'.cont.map (·.1) := by rw [e5.agree]; exact hx
      (repeat decreasing_trivial_pre_omega)
      refine x_dct (um_old hc3 hq0) rfl (by rw [dU_find, kfind_of 0 hx2]; rfl) ?_
      (repeat decreasing_trivial_pre_omega)
      refine x_dct (um_old hw3 hq0) rfl (by rw [dU_find, kfind_of ("" : Str) hx]; rfl) ?_
      (repeat decreasing_trivial_pre_omega)
      refine hk _ _ um_same (fun _ => ?_) ⟨rfl, by simp⟩
      have h1 : don.length + rest.length + 1 = (sortS (s'.owners.map (·.1))).length := by rw [← e]; simp; omega
      rw [sortS_len, List.length_map] at h1
      rw [List.length_map]
      unfold LIM
      omega
    intro acc M2 ⟨f1, f2⟩
    subst f1 f2
    intro r2 hr2
    have s3 : Sub M' (um (um M' q (.lst ((sortS (s'.owners.map (·.1))).map U.str))) r2 (.lst ((sortS (s'.owners.map (·.1))).map fun f => .tup [.str f, .int ((kfind s'.cont f).getD 0), .str ((kfind s'.owners f).getD "")]))) := sub_um (sub_um (Sub.refl _) hq0) (um_none hr2)
    rw [show (sortS (s'.owners.map (·.1))).map (fun f => U.tup [.str f, .int ((kfind s'.cont f).getD 0), .str ((kfind s'.owners f).getD "")]) = (sortS (s'.owners.map (·.1))).map (fun f => U.tup [.str f, .int ((kfind s'.cont f).getD 0), .str ((kfind s'.owners f).getD "")]) from rfl] at s3
    have e3' := e3.sub s3
    have f3 : um (um M' q (.lst ((sortS (s'.owners.map (·.1))).map U.str))) r2 (.lst ((sortS (s'.owners.map (·.1))).map fun f => .tup [.str f, .int ((kfind s'.cont f).getD 0), .str ((kfind s'.owners f).getD "")])) r2 = some (.lst ((sortS (s'.owners.map (·.1))).map fun f => .tup [.str f, .int ((kfind s'.cont f).getD 0), .str ((kfind s'.owners f).getD "")])) := um_same
    generalize um (um M' q (.lst ((sortS (s'.owners.map (·.1))).map U.str))) r2 (.lst ((sortS (s'.owners.map (·.1))).map fun f => .tup [.str f, .int ((kfind s'.cont f).getD 0), .str ((kfind s'.owners f).getD "")])) = M3 at s3 e3' f3 ⊢
    have hp3 := e3'.p
    have hr3 := e3'.r
    have hd3 := e3'.d
    rw [e2] at hp3
    (repeat decreasing_trivial_pre_omega)
    refine compL_by (enc := U.str) (fun don rest acc M2 => M2 = M3 ∧ acc = don.map fun r => .tup [.str r, trU ((kfind s'.done r).getD [])]) s'.order ⟨rfl, rfl⟩ ?_ ?_
    · intro don x rest acc M2 k e ⟨e1, e2'⟩ hk
      subst e1 e2'
      have hx := (e5.ordS x (by rw [← e]; simp)).2
      rw [kfind_isSome] at hx
      (repeat decreasing_trivial_pre_omega)
      refine x_dct hd3 rfl (by rw [dU_find, kfind_of [] (of_decide_eq_true hx)]; rfl) ?_
      (repeat decreasing_trivial_pre_omega)
      refine hk _ _ hr3 (fun _ => ?_) ⟨rfl, by simp⟩
      have h1 : don.length + rest.length + 1 = s'.order.length := by rw [← e]; simp; omega
      rw [List.length_map]
      unfold LIM
      omega
    intro acc M2 ⟨f1, f2⟩
    subst f1 f2
    intro r3 hr3'
    have hm4 := (e3'.sub (sub_um (o := .lst (s'.order.map fun r => .tup [.str r, trU ((kfind s'.done r).getD [])])) (Sub.refl _) hr3')).m
    have hp4 := (e3'.sub (sub_um (o := .lst (s'.order.map fun r => .tup [.str r, trU ((kfind s'.done r).getD [])])) (Sub.refl _) hr3')).p
    rw [e2] at hp4
    (repeat decreasing_trivial_pre_omega)
    exact hq _ ((s2.trans s3).trans (sub_um (Sub.refl _) hr3')) e5 eo
def LMakeF (C : CE) (g : Nat) : Prop := ∀ (M : Hm) (b : Bk) (wd : List Int) (gs : List Str) (Q : QU), BkOk b → WdOk b wd → (∀ g ∈ gs, g ∈ b.names) → gs.length * (1 + mb b) < 80000 → mb b ≤ 600 →
  (∀ M', Sub M M' → StOk b (goalsM b wd {} gs).1 [] → okU (outO (goalsM b wd {} gs).2) = true → Q (makeU b wd gs) M') → C g [encBk b, .tup (wd.map U.int), .tup (gs.map U.str)] M Q
/-! the goal is done last -/
theorem step_head {b : Bk} {wd : List Int} {st s1 : Mst} {init stk : List Fm} {f : Fm} (h : stepM b wd st init f = .inl (s1, stk)) : stk.head?.map (·.rule) = (init ++ [f]).head?.map (·.rule) ∨ (stk = [] ∧ init = [] ∧ s1.order = st.order ++ [f.rule]) := by
  have adv : ∀ {k : Bd} {es : List Ev}, (init ++ [(⟨f.rule, k, es⟩ : Fm)]).head?.map (·.rule) = (init ++ [f]).head?.map (·.rule) := fun {k es} => by cases init <;> rfl
  unfold stepM at h
  split at h
  · split at h
    · cases h
    · cases h
      cases init with
      | nil => exact .inr ⟨rfl, rfl, rfl⟩
      | cons g tl => exact .inl rfl
  · split at h
    · cases h; exact .inl adv
    · split at h
      · cases h
      · split at h
        · cases h
          left
          cases init <;> rfl
        · cases h
  · cases h; exact .inl adv
  · split at h
    · cases h; exact .inl adv
    · split at h
      · cases h
      · cases h; exact .inl adv
theorem runM_last {b : Bk} {wd : List Int} : ∀ (n : Nat) (st st' : Mst) (stack : List Fm), stack ≠ [] → mu b st stack ≤ n → runM b wd n st stack = (st', none) → st'.order.getLast? = stack.head?.map (·.rule) := by
  intro n
  induction n with
  | zero =>
    intro st st' stack h0 h e
    rcases List.eq_nil_or_concat stack with rfl | ⟨init, f, rfl⟩
    · exact absurd rfl h0
    · have := @mu_pos b st init f; rw [List.concat_eq_append] at h; omega
  | succ n ih =>
    intro st st' stack h0 h e
    rcases List.eq_nil_or_concat stack with rfl | ⟨init, f, rfl⟩
    · exact absurd rfl h0
    · rw [List.concat_eq_append] at h e ⊢
      rw [runM_snoc] at e
      cases hs : stepM b wd st init f with
      | inr x => rw [hs] at e; cases e
      | inl x =>
        obtain ⟨s1, stk⟩ := x
        rw [hs] at e
        have h1 := (mu_step hs).1
        rcases step_head hs with h2 | ⟨h2, h3, h4⟩
        · have hne : stk ≠ [] := fun z => by
            subst z
            cases init <;> cases h2
          rw [ih s1 st' stk hne (by omega) e, h2]
        · subst h2 h3
          dsimp only at e
          rw [runM_nil] at e
          cases e
          rw [h4]
          simp
theorem alone_last {b : Bk} {wd : List Int} {r : Str} {st' : Mst} (hr : r ∈ b.names) (e : goalsM b wd {} [r] = (st', none)) : st'.order.getLast? = some r := by
  rw [goalsM_cons, if_neg (by simp [kfind])] at e
  obtain ⟨bd, hb⟩ := bodyOf_some hr
  have e2 : goalM b wd {} r = (st', none) := by
    cases h : goalM b wd {} r with
    | mk s ou =>
      rw [h] at e
      cases ou with
      | none => exact e
      | some o => cases e
  unfold goalM at e2
  simp only [hb] at e2
  exact runM_last _ _ _ _ (by simp) (Nat.le_refl _) e2
theorem lalone_ok {C : CE} {fm : Nat} (hm : LMakeF C fm) {nx bk ct : SU → Hm → Prop} {rt : QU} {M : Hm} {b : Bk} {wd : List Int} {r : Str} (hb : BkOk b) (hw : WdOk b wd) (hr : r ∈ b.names) (hB : 1 + mb b < 80000) (hmb : mb b ≤ 600)
    (hq : ∀ M', Sub M M' → StOk b (goalsM b wd {} [r]).1 [] → okU (outO (goalsM b wd {} [r]).2) = true → rt (aloneU b wd r) M') : wS C (B_law_alone fm) ⟨nx, rt, bk, ct⟩ (startU 4 [encBk b, .tup (wd.map U.int), .str r]) M := by
  unfold B_law_alone
  (repeat decreasing_trivial_pre_omega)
  refine hm _ b wd [r] _ hb hw (by simpa using hr) (by simpa using hB) hmb fun M2 s2 h1 h2 => ?_
  have hq2 := hq M2 s2 h1 h2
  unfold aloneU at hq2
  unfold makeU
  cases hg : goalsM b wd {} [r] with
  | mk st ou =>
  rw [hg] at hq2 h1 h2
  dsimp only at hq2 h1 h2 ⊢
  (repeat decreasing_trivial_pre_omega)
  refine eq_done h2 ?_
  cases ou with
  | some o =>
    (repeat decreasing_trivial_pre_omega)
    exact hq2
  | none =>
    (repeat decreasing_trivial_pre_omega)
    have hl := alone_last hr hg
    unfold tracesU
    (repeat decreasing_trivial_pre_omega)
    refine x_tup (v := .tup [.str r, trU ((kfind st.done r).getD [])]) ?_ ?_
    · rcases List.eq_nil_or_concat st.order with h | ⟨l, x, h⟩
      · rw [h] at hl; cases hl
      · rw [h, List.concat_eq_append] at hl ⊢
        rw [List.getLast?_append] at hl
        simp at hl
        subst hl
        rw [List.map_append]
        exact atI_last _ _
    (repeat decreasing_trivial_pre_omega)
    exact hq2
def LAlonF (C : CE) (g : Nat) : Prop := ∀ (M : Hm) (b : Bk) (wd : List Int) (r : Str) (Q : QU), BkOk b → WdOk b wd → r ∈ b.names → 1 + mb b < 80000 → mb b ≤ 600 →
  (∀ M', Sub M M' → StOk b (goalsM b wd {} [r]).1 [] → okU (outO (goalsM b wd {} [r]).2) = true → Q (aloneU b wd r) M') → C g [encBk b, .tup (wd.map U.int), .str r] M Q
end Pl

set_option maxHeartbeats 2000000
/-! books that are drawn: their texts; tidy ones -/
namespace Pl
open PySem L2
/-- _law_sources:  -/
def B_law_sources : S := (.seq (.ret (.mth .split (.str "a b c s text head data srcs m longname") (.cons (.str " ") .nil))) .skip)
/-- _law_tidy_book: d, kinds, sources, rules, nodes, files, names, heads, owned, rows, k, mine, extra, spec, order, at -/
def B_law_tidy_book (law_shuffled : Nat) (law_body : Nat) (law_rare : Nat) (law_draw : Nat) (law_sources : Nat) (law_rules : Nat) (law_files : Nat) : S := (.seq (.asg 5 (.call law_shuffled (.cons (.var 0) (.cons (.call law_files .nil) .nil)))) (.seq (.asg 6 (.slice (.call law_shuffled (.cons (.var 0) (.cons (.call law_rules .nil) .nil))) .nil (.var 3))) (.seq (.asg 7 (.blt .tupd (.cons (.slice (.call law_shuffled (.cons (.var 0) (.cons (.call law_sources .nil) .nil))) .nil (.var 2)) .nil))) (.seq (.asg 8 (.lst .nil)) (.seq (.asg 9 (.lst .nil)) (.seq (.for_ (.one 10) (.iRange (.var 3)) (.seq (.asg 11 (.ite (.cmp .eq (.call law_draw (.cons (.var 0) (.cons (.int 3) .nil))) (.int 1)) (.lst (.cons (.ix (.var 5) (.bin .mul (.int 2) (.var 10))) .nil)) (.lst (.cons (.ix (.var 5) (.bin .mul (.int 2) (.var 10))) (.cons (.ix (.var 5) (.bin .add (.bin .mul (.int 2) (.var 10)) (.int 1))) .nil))))) (.seq (.asg 12 (.ite (.call law_rare (.cons (.var 0) (.cons (.int 5) .nil))) (.lst (.cons (.ix (.var 5) (.int 19)) .nil)) (.lst .nil))) (.seq (.ifs (.call law_rare (.cons (.var 0) (.cons (.int 5) .nil))) (.seq (.asg 12 (.bin .add (.var 12) (.slice (.var 11) .nil (.int 1)))) .skip) .skip) (.seq (.asg 13 (.lst (.cons (.var 1) (.cons (.var 7) (.cons (.var 11) (.cons (.var 8) (.cons (.slice (.var 6) .nil (.var 10)) (.cons (.var 12) .nil)))))))) (.seq (.expr (.mth .append (.var 9) (.cons (.tup (.cons (.ix (.var 6) (.var 10)) (.cons (.call law_body (.cons (.var 0) (.cons (.var 13) (.cons (.lst .nil) (.cons (.var 4) (.cons (.int 0) .nil)))))) .nil))) .nil))) (.seq (.asg 8 (.bin .add (.var 8) (.lst (.cons (.var 11) .nil)))) .skip))))))) (.seq (.asg 14 (.call law_shuffled (.cons (.var 0) (.cons (.lrng false .nil (.var 3)) .nil)))) (.seq (.ret (.tup (.cons (.var 1) (.cons (.var 7) (.cons (.blt .tuple (.cons (.comp [("at", 15)] (.one 15) (.iSeq (.var 14)) .nil (.ix (.var 9) (.var 15))) .nil)) .nil))))) .skip))))))))
/-- _law_wild_book: d, kinds, sources, rules, nodes, files, names, heads, rows, k, mine, spec -/
def B_law_wild_book (law_body : Nat) (law_rare : Nat) (law_pick : Nat) (law_shuffled : Nat) (law_sources : Nat) (law_rules : Nat) (law_files : Nat) : S := (.seq (.asg 5 (.slice (.call law_shuffled (.cons (.var 0) (.cons (.call law_files .nil) .nil))) .nil (.int 3))) (.seq (.asg 6 (.slice (.call law_shuffled (.cons (.var 0) (.cons (.call law_rules .nil) .nil))) .nil (.var 3))) (.seq (.asg 7 (.blt .tupd (.cons (.slice (.call law_shuffled (.cons (.var 0) (.cons (.call law_sources .nil) .nil))) .nil (.var 2)) .nil))) (.seq (.asg 8 (.lst .nil)) (.seq (.for_ (.one 9) (.iRange (.var 3)) (.seq (.asg 10 (.lst (.cons (.call law_pick (.cons (.var 0) (.cons (.var 5) .nil))) (.cons (.call law_pick (.cons (.var 0) (.cons (.var 5) .nil))) .nil)))) (.seq (.ifs (.call law_rare (.cons (.var 0) (.cons (.int 9) .nil))) (.seq (.asg 10 (.bin .add (.var 10) (.blt .list (.cons (.var 7) .nil)))) .skip) .skip) (.seq (.asg 11 (.lst (.cons (.var 1) (.cons (.var 7) (.cons (.var 10) (.cons (.bin .mul (.lst (.cons (.var 5) .nil)) (.var 3)) (.cons (.var 6) (.cons (.var 5) .nil)))))))) (.seq (.expr (.mth .append (.var 8) (.cons (.tup (.cons (.ix (.var 6) (.var 9)) (.cons (.call law_body (.cons (.var 0) (.cons (.var 11) (.cons (.lst .nil) (.cons (.var 4) (.cons (.int 0) .nil)))))) .nil))) .nil))) .skip))))) (.seq (.ret (.tup (.cons (.var 1) (.cons (.var 7) (.cons (.blt .tuple (.cons (.var 8) .nil)) .nil))))) .skip))))))
/-- _law_bodies_of: body -/
def B_law_bodies_of : S := (.seq (.ifs (.cmp .eq (.ix (.var 0) (.int 0)) (.str "see")) (.seq (.ret (.blt .list (.cons (.ix (.var 0) (.int 2)) .nil))) .skip) .skip) (.seq (.ifs (.cmp .eq (.ix (.var 0) (.int 0)) (.str "done")) (.seq (.ret (.lst .nil)) .skip) .skip) (.seq (.ret (.lst (.cons (.ix (.var 0) (.bin .sub (.blt .len (.cons (.var 0) .nil)) (.int 1))) .nil))) .skip)))
/-- _law_without_asks: body, one -/
def B_law_without_asks (law_without_asks : Nat) : S := (.seq (.ifs (.cmp .eq (.ix (.var 0) (.int 0)) (.str "ask")) (.seq (.ret (.call law_without_asks (.cons (.ix (.var 0) (.int 2)) .nil))) .skip) .skip) (.seq (.ifs (.cmp .eq (.ix (.var 0) (.int 0)) (.str "see")) (.seq (.ret (.tup (.cons (.str "see") (.cons (.ix (.var 0) (.int 1)) (.cons (.blt .tuple (.cons (.comp [("one", 1)] (.one 1) (.iSeq (.ix (.var 0) (.int 2))) .nil (.call law_without_asks (.cons (.var 1) .nil))) .nil)) .nil))))) .skip) .skip) (.seq (.ifs (.cmp .eq (.ix (.var 0) (.int 0)) (.str "put")) (.seq (.ret (.tup (.cons (.str "put") (.cons (.ix (.var 0) (.int 1)) (.cons (.ix (.var 0) (.int 2)) (.cons (.call law_without_asks (.cons (.ix (.var 0) (.int 3)) .nil)) .nil)))))) .skip) .skip) (.seq (.ret (.var 0)) .skip))))
/-- _law_put_files: body, found, left, turn, one -/
def B_law_put_files (law_bodies_of : Nat) : S := (.seq (.asg 1 (.lst .nil)) (.seq (.asg 2 (.lst (.cons (.var 0) .nil))) (.seq (.for_ (.one 3) (.iRange (.int 200)) (.seq (.ifs (.not (.var 2)) (.seq .brk .skip) .skip) (.seq (.asg 4 (.mth .pop (.var 2) .nil)) (.seq (.ifs (.ands (.cons (.cmp .eq (.ix (.var 4) (.int 0)) (.str "put")) (.cons (.cmp .notin (.ix (.var 4) (.int 1)) (.var 1)) .nil))) (.seq (.expr (.mth .append (.var 1) (.cons (.ix (.var 4) (.int 1)) .nil))) .skip) .skip) (.seq (.expr (.mth .extend (.var 2) (.cons (.call law_bodies_of (.cons (.var 4) .nil)) .nil))) .skip))))) (.seq (.ret (.var 1)) .skip))))
/-- _law_nodes: body, many, left, turn -/
def B_law_nodes (law_bodies_of : Nat) : S := (.seq (.asg 1 (.int 0)) (.seq (.asg 2 (.lst (.cons (.var 0) .nil))) (.seq (.for_ (.one 3) (.iRange (.int 400)) (.seq (.ifs (.not (.var 2)) (.seq .brk .skip) .skip) (.seq (.augV 1 .add (.int 1)) (.seq (.expr (.mth .extend (.var 2) (.cons (.call law_bodies_of (.cons (.mth .pop (.var 2) .nil) .nil)) .nil))) .skip)))) (.seq (.ret (.var 1)) .skip))))
/-- _law_spoilt_book: d, book, at, other, name, body, files, way, rows, k -/
def B_law_spoilt_book (law_rare : Nat) (law_pick : Nat) (law_draw : Nat) (law_nodes : Nat) (law_without_asks : Nat) (law_put_files : Nat) (law_files : Nat) : S := (.seq (.asg 2 (.call law_draw (.cons (.var 0) (.cons (.blt .len (.cons (.ix (.var 1) (.int 2)) .nil)) .nil)))) (.seq (.asg 3 (.call law_draw (.cons (.var 0) (.cons (.blt .len (.cons (.ix (.var 1) (.int 2)) .nil)) .nil)))) (.seq (.asgT [4, 5] (.ix (.ix (.var 1) (.int 2)) (.var 2))) (.seq (.asg 6 (.bin .add (.call law_put_files (.cons (.ix (.ix (.ix (.var 1) (.int 2)) (.var 3)) (.int 1)) .nil)) (.lst (.cons (.call law_pick (.cons (.var 0) (.cons (.call law_files .nil) .nil))) .nil)))) (.seq (.asg 7 (.call law_draw (.cons (.var 0) (.cons (.int 6) .nil)))) (.seq (.ifs (.cmp .eq (.var 7) (.int 1)) (.seq (.asg 5 (.call law_without_asks (.cons (.var 5) .nil))) .skip) .skip) (.seq (.ifs (.cmp .eq (.var 7) (.int 2)) (.seq (.asg 5 (.tup (.cons (.str "ask") (.cons (.ix (.ix (.ix (.var 1) (.int 2)) (.var 3)) (.int 0)) (.cons (.var 5) .nil))))) .skip) .skip) (.seq (.ifs (.ands (.cons (.ors (.cons (.cmp .eq (.var 7) (.int 3)) (.cons (.cmp .eq (.var 7) (.int 4)) .nil))) (.cons (.cmp .lt (.bin .mul (.call law_nodes (.cons (.var 5) .nil)) (.bin .add (.ix (.var 1) (.int 0)) (.int 1))) (.int 58)) .nil))) (.seq (.asg 5 (.tup (.cons (.str "see") (.cons (.ix (.var 6) (.int 0)) (.cons (.blt .tuple (.cons (.bin .mul (.lst (.cons (.var 5) .nil)) (.bin .add (.ix (.var 1) (.int 0)) (.int 1))) .nil)) .nil))))) .skip) .skip) (.seq (.ifs (.cmp .eq (.var 7) (.int 5)) (.seq (.asg 5 (.tup (.cons (.str "put") (.cons (.ix (.var 6) (.int 0)) (.cons (.call law_draw (.cons (.var 0) (.cons (.ix (.var 1) (.int 0)) .nil))) (.cons (.var 5) .nil)))))) .skip) .skip) (.seq (.ifs (.ands (.cons (.cmp .eq (.var 7) (.int 0)) (.cons (.ix (.var 1) (.int 1)) (.cons (.call law_rare (.cons (.var 0) (.cons (.int 3) .nil))) .nil)))) (.seq (.asg 5 (.tup (.cons (.str "put") (.cons (.call law_pick (.cons (.var 0) (.cons (.blt .list (.cons (.ix (.var 1) (.int 1)) .nil)) .nil))) (.cons (.int 0) (.cons (.var 5) .nil)))))) .skip) .skip) (.seq (.asg 8 (.comp [("k", 9)] (.one 9) (.iRange (.blt .len (.cons (.ix (.var 1) (.int 2)) .nil))) .nil (.ite (.cmp .eq (.var 9) (.var 2)) (.tup (.cons (.var 4) (.cons (.var 5) .nil))) (.ix (.ix (.var 1) (.int 2)) (.var 9))))) (.seq (.ret (.tup (.cons (.ix (.var 1) (.int 0)) (.cons (.ix (.var 1) (.int 1)) (.cons (.blt .tuple (.cons (.var 8) .nil)) .nil))))) .skip))))))))))))
/-- _law_book: d, kinds, sources, rules, nodes, way, many, seen, size, book -/
def B_law_book (law_spoilt_book : Nat) (law_tidy_book : Nat) (law_wild_book : Nat) (law_draw : Nat) : S := (.seq (.asg 5 (.call law_draw (.cons (.var 0) (.cons (.int 5) .nil)))) (.seq (.asg 6 (.bin .add (.int 1) (.call law_draw (.cons (.var 0) (.cons (.var 1) .nil))))) (.seq (.asg 7 (.blt .max (.cons (.call law_draw (.cons (.var 0) (.cons (.bin .add (.var 2) (.int 1)) .nil))) (.cons (.call law_draw (.cons (.var 0) (.cons (.bin .add (.var 2) (.int 1)) .nil))) .nil)))) (.seq (.asg 8 (.bin .add (.int 1) (.blt .max (.cons (.call law_draw (.cons (.var 0) (.cons (.var 3) .nil))) (.cons (.call law_draw (.cons (.var 0) (.cons (.var 3) .nil))) .nil))))) (.seq (.ifs (.cmp .eq (.var 5) (.int 3)) (.seq (.ret (.call law_wild_book (.cons (.var 0) (.cons (.var 6) (.cons (.var 7) (.cons (.var 8) (.cons (.var 4) .nil))))))) .skip) .skip) (.seq (.asg 9 (.call law_tidy_book (.cons (.var 0) (.cons (.var 6) (.cons (.var 7) (.cons (.var 8) (.cons (.var 4) .nil))))))) (.seq (.ifs (.ors (.cons (.cmp .eq (.var 5) (.int 1)) (.cons (.cmp .eq (.var 5) (.int 2)) .nil))) (.seq (.ret (.call law_spoilt_book (.cons (.var 0) (.cons (.var 9) .nil)))) .skip) .skip) (.seq (.ret (.var 9)) .skip))))))))
/-- _law_world: d, book, name -/
def B_law_world (law_draw : Nat) : S := (.seq (.ret (.blt .tuple (.cons (.comp [("name", 2)] (.one 2) (.iSeq (.ix (.var 1) (.int 1))) .nil (.bin .sub (.call law_draw (.cons (.var 0) (.cons (.bin .add (.ix (.var 1) (.int 0)) (.int 1)) .nil))) (.int 1))) .nil))) .skip)
/-- _law_goals: d, book, names, row, many, found -/
def B_law_goals (law_rare : Nat) (law_shuffled : Nat) (law_draw : Nat) : S := (.seq (.asg 2 (.comp [("row", 3)] (.one 3) (.iSeq (.ix (.var 1) (.int 2))) .nil (.ix (.var 3) (.int 0)))) (.seq (.asg 4 (.bin .add (.int 1) (.blt .min (.cons (.call law_draw (.cons (.var 0) (.cons (.int 3) .nil))) (.cons (.bin .sub (.blt .len (.cons (.var 2) .nil)) (.int 1)) .nil))))) (.seq (.asg 5 (.slice (.call law_shuffled (.cons (.var 0) (.cons (.var 2) .nil))) .nil (.var 4))) (.seq (.ifs (.ands (.cons (.call law_rare (.cons (.var 0) (.cons (.int 5) .nil))) (.cons (.cmp .lt (.blt .len (.cons (.var 5) .nil)) (.int 8)) .nil))) (.seq (.expr (.mth .append (.var 5) (.cons (.ix (.var 5) (.int 0)) .nil))) .skip) .skip) (.seq (.ret (.blt .tuple (.cons (.var 5) .nil))) .skip)))))

def ok1 (s : Str) : Prop := okS s = true
def NamesLC (C : CE) (f n : Nat) : Prop := ∀ (M : Hm) (Q : QU), (∀ (r : Addr) (l : List Str) M', Sub M M' → M r = none → M' r = some (.lst (l.map U.str)) → l.length = n → (∀ x ∈ l, ok1 x) → Q (.ref r) M') → C f [] M Q
def ShufU (C : CE) (f : Nat) : Prop := ∀ (M : Hm) (p : Addr × Addr) (r : Addr) (us : List U) (Q : QU), Dr M p → M r = some (.lst us) → us.length < 100000 →
  (∀ q ws M', ws.Perm us → Dr M' p → Fr p M M' → q ≠ p.1 → q ≠ p.2 → M q = none → M' q = some (.lst ws) → Q (.ref q) M') → C f [.ref p.1, .ref r] M Q
theorem perm_map {α : Type} (f : α → U) : ∀ {us ws : List U} {l : List α}, ws.Perm us → us = l.map f → ∃ k : List α, ws = k.map f ∧ k.Perm l := fun {us ws l} h e => by
  induction h generalizing l with
  | nil => cases l with
    | nil => exact ⟨[], rfl, .nil⟩
    | cons _ _ => cases e
  | cons x h ih => cases l with
    | nil => cases e
    | cons a l =>
      simp only [List.map_cons, List.cons.injEq] at e
      obtain ⟨k, h1, h2⟩ := ih e.2
      exact ⟨a :: k, by rw [e.1, h1]; rfl, h2.cons a⟩
  | swap x y t => cases l with
    | nil => cases e
    | cons a l => cases l with
      | nil => simp at e
      | cons b l =>
        simp only [List.map_cons, List.cons.injEq] at e
        exact ⟨b :: a :: l, by rw [e.1, e.2.1, e.2.2]; rfl, .swap a b l⟩
  | trans h1 h2 ih1 ih2 =>
    obtain ⟨k, e1, p1⟩ := ih2 e
    obtain ⟨k2, e2, p2⟩ := ih1 e1
    exact ⟨k2, e2, p2.trans p1⟩
structure BkG (b : Bk) (j : Nat) : Prop where
  ok : BkOk b
  n1 : b.n < 100
  r0 : 0 < b.rows.length
  r8 : b.rows.length ≤ 8
  bp : ∀ r ∈ b.rows, BBP b j r.2
theorem BP.mono {n : Nat} {pp pp' : Str → Int → Prop} {pa pa' ps ps' : Str → Prop} (h1 : ∀ f c, pp f c → pp' f c) (h2 : ∀ f, pa f → pa' f) (h3 : ∀ f, ps f → ps' f) {j : Nat} {b : Bd} (h : BP n pp pa ps j b) : BP n pp' pa' ps' j b := by
  induction h with
  | done => exact .done
  | put a _ ih => exact .put (h1 _ _ a) ih
  | ask a _ ih => exact .ask (h2 _ a) ih
  | see a l _ ih => exact .see (h3 _ a) l ih
theorem BkG.mk' {n : Nat} {heads : List Str} {rows : List (Str × Bd)} {j : Nat} (h0 : 0 < n) (hn : n < 100) (hh : ∀ h ∈ heads, ok1 h) (hl : heads.length ≤ 100) (r0 : 0 < rows.length) (r8 : rows.length ≤ 8) (hr : ∀ r ∈ rows, ok1 r.1 ∧ BP (n + 1) (fun f c => ok1 f ∧ 0 ≤ c ∧ c < n) (fun r => r ∈ rows.map (·.1)) ok1 j r.2) : BkG ⟨n, heads, rows⟩ j :=
  ⟨⟨h0, hh, fun r hr' => ⟨(hr r hr').1, j, (hr r hr').2⟩, hl, by show rows.length ≤ 100; omega⟩, hn, r0, r8, fun r hr' => (hr r hr').2⟩
/-- all but the draws' own and one more stays -/
def Fr2 (p : Addr × Addr) (w : Addr) (M M' : Hm) : Prop := ∀ a, a ≠ p.1 → a ≠ w → ∀ o, M a = some o → M' a = some o
theorem tidy_tail {C : CE} {fb : Nat} (hb : BodyC C fb 0) {nx bk ct : SU → Hm → Prop} {rt : QU} {M : Hm} {p : Addr × Addr} {n k : Nat} {H NM X Mi : List Str} {G : List Addr} {rowsL : List (Str × Bd)} {nm o rw m x : Addr} {u2 u3 u5 u13 u14 u15 : Option U} {nodes : Int} (n0 : 0 < n) (n1 : n < 100) (d : Dr M p)
    (hH : H.length ≤ 100) (hHk : ∀ h ∈ H, ok1 h) (nm1 : nm ≠ p.1) (hnm : M nm = some (.lst (NM.map U.str))) (hNl : NM.length ≤ 100) (hk : k < NM.length) (hm : StrsAt M p m ok1 Mi) (hx : StrsAt M p x ok1 X)
    (o1 : o ≠ p.1) (ho : M o = some (.lst (G.map U.ref))) (hG : G.length = k) (hGs : ∀ r ∈ G, r ≠ rw ∧ ∃ l, StrsAt M p r ok1 l) (w1 : rw ≠ p.1) (w2 : rw ≠ p.2) (hw : M rw = some (.lst (rowsL.map encRow))) (hrl : rowsL.length ≤ 100) (onw : o ≠ rw)
    (hq : ∀ o' t bd M', BP (n + 1) (fun f c => ok1 f ∧ 0 ≤ c ∧ c < n) (fun r => r ∈ NM) ok1 9 bd → Dr M' p → Fr2 p rw M M' → o' ≠ p.1 → o' ≠ rw → M' o' = some (.lst ((G ++ [m]).map U.ref)) → M' rw = some (.lst ((rowsL ++ [(NM[k], bd)]).map encRow)) →
      nx [some (.ref p.1), some (.int n), u2, u3, some (.int nodes), u5, some (.ref nm), some (.dtp (H.map U.str)), some (.ref o'), some (.ref rw), some (.int k), some (.ref m), some (.ref x), t, u14, u15] M') :
    wS C (.seq (.asg 13 (.lst (.cons (.var 1) (.cons (.var 7) (.cons (.var 11) (.cons (.var 8) (.cons (.slice (.var 6) .nil (.var 10)) (.cons (.var 12) .nil)))))))) (.seq (.expr (.mth .append (.var 9) (.cons (.tup (.cons (.ix (.var 6) (.var 10)) (.cons (.call fb (.cons (.var 0) (.cons (.var 13) (.cons (.lst .nil) (.cons (.var 4) (.cons (.int 0) .nil)))))) .nil))) .nil))) (.seq (.asg 8 (.bin .add (.var 8) (.lst (.cons (.var 11) .nil)))) .skip)))
    ⟨nx, rt, bk, ct⟩ [some (.ref p.1), some (.int n), u2, u3, some (.int nodes), u5, some (.ref nm), some (.dtp (H.map U.str)), some (.ref o), some (.ref rw), some (.int k), some (.ref m), some (.ref x), u13, u14, u15] M := by
  (repeat decreasing_trivial_pre_omega)
  rw [cutU_take, ← List.map_take]
  intro a ha
  have d1 := d.upd (o := .lst ((NM.take k).map U.str)) ha
  have a1 := d.ne ha
  (repeat decreasing_trivial_pre_omega)
  intro s hs
  have d2 := d1.upd (o := .lst [.int n, .dtp (H.map U.str), .ref m, .ref o, .ref a, .ref x]) hs
  have s1 := d1.ne hs
  have hs0 := um_none hs
  have sa := um_noneN hs
  have wa : rw ≠ a := ne_of_old hw ha
  have ws : rw ≠ s := ne_of_old hw hs0
  (repeat decreasing_trivial_pre_omega)
  refine x_lst (v := .str NM[k]) (um_old (um_old hnm ha) hs) (by rw [atI_nat (by rw [List.length_map]; exact hk), List.getElem_map]) ?_
  (repeat decreasing_trivial_pre_omega)
  intro q hq0
  have d3 := d2.upd (o := .lst []) hq0
  have q1 := d2.ne hq0
  have hq1 := um_none hq0
  have qs := um_noneN hq0
  have hq2 := um_none hq1
  have qa := um_noneN hq1
  have S0 : Sub M (um (um (um M a (.lst ((NM.take k).map U.str))) s (.lst [.int n, .dtp (H.map U.str), .ref m, .ref o, .ref a, .ref x])) q (.lst [])) := sub_um (sub_um (sub_um (Sub.refl _) ha) hs0) hq2
  have e_s : um (um (um M a (.lst ((NM.take k).map U.str))) s (.lst [.int n, .dtp (H.map U.str), .ref m, .ref o, .ref a, .ref x])) q (.lst []) s = some (.lst [.int n, .dtp (H.map U.str), .ref m, .ref o, .ref a, .ref x]) := um_oth qs.symm um_same
  have e_a : um (um (um M a (.lst ((NM.take k).map U.str))) s (.lst [.int n, .dtp (H.map U.str), .ref m, .ref o, .ref a, .ref x])) q (.lst []) a = some (.lst ((NM.take k).map U.str)) := um_oth qa.symm (um_oth sa.symm um_same)
  have e_q : um (um (um M a (.lst ((NM.take k).map U.str))) s (.lst [.int n, .dtp (H.map U.str), .ref m, .ref o, .ref a, .ref x])) q (.lst []) q = some (.lst []) := um_same
  generalize um (um (um M a (.lst ((NM.take k).map U.str))) s (.lst [.int n, .dtp (H.map U.str), .ref m, .ref o, .ref a, .ref x])) q (.lst []) = M3 at d3 S0 e_s e_a e_q ⊢
  have F3 : Fr p M M3 := S0.fr
  (repeat decreasing_trivial_pre_omega)
  refine hb M3 p s q n ok1 (fun r => r ∈ NM) ok1 nodes 9 _ (by decide) n0 n1 d3 ?_ ?_ fun bd M4 hbd d4 fr4 => ?_
  · refine ⟨H, Mi, NM.take k, X, m, o, a, x, G, .dtp (H.map U.str), s1, e_s, ⟨hH, .inr rfl⟩, hHk, hm.fr F3, ⟨a1, by rw [List.length_take]; omega, fun y hy => List.mem_of_mem_take hy, e_a⟩, hx.fr F3, o1, S0 _ _ ho, by rw [List.length_take]; omega, fun r hr => ?_⟩
    obtain ⟨l, hl⟩ := (hGs r hr).2
    exact ⟨l, hl.fr F3⟩
  · exact ⟨[], _, _, _, _, _, o, G, q1, e_q, by decide, e_s, S0 _ _ ho, s1, o1, by intro i hi; cases hi⟩
  have hw4 := fr4.at_ w1 (S0 _ _ hw)
  have ho4 := fr4.at_ o1 (S0 _ _ ho)
  (repeat decreasing_trivial_pre_omega)
  refine m_app hw4 (by rw [List.length_map]; unfold LIM; omega) ?_
  have e9 : rowsL.map encRow ++ [.tup [.str NM[k], encB bd]] = (rowsL ++ [(NM[k], bd)]).map encRow := by simp [encRow]
  rw [e9]
  have d5 := d4.upd2 (o := .lst ((rowsL ++ [(NM[k], bd)]).map encRow)) w1 w2
  have ho5 := um_oth (o := .lst ((rowsL ++ [(NM[k], bd)]).map encRow)) onw ho4
  (repeat decreasing_trivial_pre_omega)
  intro t ht
  have d6 := d5.upd (o := .lst [.ref m]) ht
  have wt : rw ≠ t := fun e => by rw [← e, um_same] at ht; cases ht
  (repeat decreasing_trivial_pre_omega)
  refine o_addL (um_old ho5 ht) um_same (by rw [List.length_map]; simp; unfold LIM; omega) fun o' hoN => ?_
  have e8 : G.map U.ref ++ [.ref m] = (G ++ [m]).map U.ref := by simp
  rw [e8]
  have d7 := d6.upd (o := .lst ((G ++ [m]).map U.ref)) hoN
  have o'1 := d6.ne hoN
  have ho0 := um_none hoN
  have wo : rw ≠ o' := fun e => by rw [← e, um_same] at ho0; cases ho0
  (repeat decreasing_trivial_pre_omega)
  refine hq o' _ bd _ hbd d7 ?_ o'1 wo.symm um_same (um_oth wo (um_oth wt um_same))
  intro b1 g1 g2 ob hob
  have h4 := fr4 b1 g1 _ (S0 _ _ hob)
  exact um_old (um_old (um_oth g2 h4) ht) hoN
end Pl

set_option maxHeartbeats 2000000
/-! tidy books -/
namespace Pl
open PySem L2
theorem tidy_mid {C : CE} {fr : Nat} (hr : RareC C fr) {T : S} {nx bk ct : SU → Hm → Prop} {rt : QU} {M : Hm} {p : Addr × Addr} {FL Mi : List Str} {fl m : Addr} {u1 u2 u3 u4 u6 u7 u8 u9 u10 u12 u13 u14 u15 : Option U} (d : Dr M p)
    (fl1 : fl ≠ p.1) (hfl : M fl = some (.lst (FL.map U.str))) (hF : FL.length = 20) (hFk : ∀ x ∈ FL, ok1 x) (hm : StrsAt M p m ok1 Mi) (hml : Mi.length ≤ 10)
    (hq : ∀ x X M', StrsAt M' p x ok1 X → Dr M' p → Fr p M M' → wS C T ⟨nx, rt, bk, ct⟩ [some (.ref p.1), u1, u2, u3, u4, some (.ref fl), u6, u7, u8, u9, u10, some (.ref m), some (.ref x), u13, u14, u15] M') :
    wS C (.seq (.asg 12 (.ite (.call fr (.cons (.var 0) (.cons (.int 5) .nil))) (.lst (.cons (.ix (.var 5) (.int 19)) .nil)) (.lst .nil))) (.seq (.ifs (.call fr (.cons (.var 0) (.cons (.int 5) .nil))) (.seq (.asg 12 (.bin .add (.var 12) (.slice (.var 11) .nil (.int 1)))) .skip) .skip) T))
    ⟨nx, rt, bk, ct⟩ [some (.ref p.1), u1, u2, u3, u4, some (.ref fl), u6, u7, u8, u9, u10, some (.ref m), u12, u13, u14, u15] M := by
  have rest : ∀ (x : Addr) (X : List Str) (M1 : Hm), StrsAt M1 p x ok1 X → X.length ≤ 1 → Dr M1 p → Fr p M M1 → wS C (.seq (.ifs (.call fr (.cons (.var 0) (.cons (.int 5) .nil))) (.seq (.asg 12 (.bin .add (.var 12) (.slice (.var 11) .nil (.int 1)))) .skip) .skip) T) ⟨nx, rt, bk, ct⟩ [some (.ref p.1), u1, u2, u3, u4, some (.ref fl), u6, u7, u8, u9, u10, some (.ref m), some (.ref x), u13, u14, u15] M1 := fun x X M1 hx hX d1 f1 => by
    (repeat decreasing_trivial_pre_omega)
    refine hr M1 p 5 _ d1 (by decide) (by decide) fun b M2 d2 f2 => ?_
    have hx2 := hx.fr f2
    have hm2 := (hm.fr f1).fr f2
    cases b with
    | false =>
      (repeat decreasing_trivial_pre_omega)
      exact hq x X M2 hx2 d2 (f1.trans f2)
    | true =>
      obtain ⟨x1, x2, x3, x4⟩ := hx2
      obtain ⟨m1, m2, m3, m4⟩ := hm2
      (repeat decreasing_trivial_pre_omega)
      rw [show (some (1 : Int)) = some ((1 : Nat) : Int) from rfl, cutU_take, ← List.map_take]
      intro a ha
      have d3 := d2.upd (o := .lst ((Mi.take 1).map U.str)) ha
      (repeat decreasing_trivial_pre_omega)
      refine o_addL (um_old x4 ha) um_same (by rw [List.length_map, List.length_map, List.length_take]; unfold LIM; omega) fun y hy => ?_
      rw [← List.map_append]
      have d4 := d3.upd (o := .lst ((X ++ Mi.take 1).map U.str)) hy
      (repeat decreasing_trivial_pre_omega)
      refine hq y (X ++ Mi.take 1) _ ⟨d3.ne hy, by rw [List.length_append, List.length_take]; omega, fun z hz => ?_, um_same⟩ d4 ((f1.trans f2).trans (sub_um (sub_um (Sub.refl _) ha) (um_none hy)).fr)
      rcases List.mem_append.mp hz with hz | hz
      · exact x3 z hz
      · exact m3 z (List.mem_of_mem_take hz)
  generalize (S.seq (.ifs (.call fr (.cons (.var 0) (.cons (.int 5) .nil))) (.seq (.asg 12 (.bin .add (.var 12) (.slice (.var 11) .nil (.int 1)))) .skip) .skip) T) = T2 at rest ⊢
  (repeat decreasing_trivial_pre_omega)
  refine hr M p 5 _ d (by decide) (by decide) fun b M1 d1 f1 => ?_
  have hfl1 := f1.at_ fl1 hfl
  cases b with
  | false =>
    (repeat decreasing_trivial_pre_omega)
    intro x hx
    have x1 := d1.ne hx
    (repeat decreasing_trivial_pre_omega)
    exact rest x [] _ ⟨x1, by decide, by simp, um_same⟩ (by decide) (d1.upd hx) (f1.upd (f1.non x1 hx))
  | true =>
    (repeat decreasing_trivial_pre_omega)
    refine x_lst (v := .str FL[19]) hfl1 (by rw [show (19 : Int) = ((19 : Nat) : Int) from rfl, atI_nat (by rw [List.length_map]; omega), List.getElem_map]) ?_
    (repeat decreasing_trivial_pre_omega)
    intro x hx
    have x1 := d1.ne hx
    (repeat decreasing_trivial_pre_omega)
    exact rest x [FL[19]] _ ⟨x1, by simp, (by intro z hz; rw [List.mem_singleton] at hz; subst hz; exact hFk _ (List.getElem_mem _)), um_same⟩ (by simp) (d1.upd hx) (f1.upd (f1.non x1 hx))
theorem tidy_mine {C : CE} {fd : Nat} (hd : DrawC C fd) {T : S} {nx bk ct : SU → Hm → Prop} {rt : QU} {M : Hm} {p : Addr × Addr} {FL : List Str} {fl : Addr} {k : Nat} {u1 u2 u3 u4 u6 u7 u8 u9 u11 u12 u13 u14 u15 : Option U} (d : Dr M p)
    (fl1 : fl ≠ p.1) (hfl : M fl = some (.lst (FL.map U.str))) (hF : FL.length = 20) (hFk : ∀ x ∈ FL, ok1 x) (hk : k < 8)
    (hq : ∀ m Mi M', StrsAt M' p m ok1 Mi → Mi.length ≤ 10 → M m = none → Dr M' p → Fr p M M' → wS C T ⟨nx, rt, bk, ct⟩ [some (.ref p.1), u1, u2, u3, u4, some (.ref fl), u6, u7, u8, u9, some (.int k), some (.ref m), u12, u13, u14, u15] M') :
    wS C (.seq (.asg 11 (.ite (.cmp .eq (.call fd (.cons (.var 0) (.cons (.int 3) .nil))) (.int 1)) (.lst (.cons (.ix (.var 5) (.bin .mul (.int 2) (.var 10))) .nil)) (.lst (.cons (.ix (.var 5) (.bin .mul (.int 2) (.var 10))) (.cons (.ix (.var 5) (.bin .add (.bin .mul (.int 2) (.var 10)) (.int 1))) .nil))))) T)
    ⟨nx, rt, bk, ct⟩ [some (.ref p.1), u1, u2, u3, u4, some (.ref fl), u6, u7, u8, u9, some (.int k), u11, u12, u13, u14, u15] M := by
  have at0 : atI (FL.map U.str) (2 * (k : Int)) = some (.str (FL[2 * k]'(by omega))) := by
    rw [show (2 * (k : Int)) = ((2 * k : Nat) : Int) by omega, atI_nat (by rw [List.length_map]; omega), List.getElem_map]
  have at1 : atI (FL.map U.str) (2 * (k : Int) + 1) = some (.str (FL[2 * k + 1]'(by omega))) := by
    rw [show (2 * (k : Int) + 1) = ((2 * k + 1 : Nat) : Int) by omega, atI_nat (by rw [List.length_map]; omega), List.getElem_map]
  (repeat decreasing_trivial_pre_omega)
  refine hd.lt M p 3 _ d (by decide) (by decide) fun r M1 hr d1 f1 => ?_
  have hfl1 := f1.at_ fl1 hfl
  (repeat decreasing_trivial_pre_omega)
  refine i_ifd (fun h => ?_) (fun h => ?_)
  · (repeat decreasing_trivial_pre_omega)
    refine x_lst hfl1 at0 ?_
    (repeat decreasing_trivial_pre_omega)
    intro x hx
    have x1 := d1.ne hx
    (repeat decreasing_trivial_pre_omega)
    exact hq x [FL[2 * k]'(by omega)] _ ⟨x1, by simp, (by intro z hz; rw [List.mem_singleton] at hz; subst hz; exact hFk _ (List.getElem_mem _)), um_same⟩ (by simp) (f1.non x1 hx) (d1.upd hx) (f1.upd (f1.non x1 hx))
  · (repeat decreasing_trivial_pre_omega)
    refine x_lst hfl1 at0 ?_
    (repeat decreasing_trivial_pre_omega)
    refine x_lst hfl1 at1 ?_
    (repeat decreasing_trivial_pre_omega)
    intro x hx
    have x1 := d1.ne hx
    (repeat decreasing_trivial_pre_omega)
    exact hq x [FL[2 * k]'(by omega), FL[2 * k + 1]'(by omega)] _ ⟨x1, by simp, (by
      intro z hz
      rcases List.mem_cons.mp hz with rfl | hz
      · exact hFk _ (List.getElem_mem _)
      · rw [List.mem_singleton] at hz; subst hz; exact hFk _ (List.getElem_mem _)), um_same⟩ (by simp) (f1.non x1 hx) (d1.upd hx) (f1.upd (f1.non x1 hx))
theorem getD_perm_mem {l : List Nat} {n : Nat} (h : l.Perm (List.range n)) {i : Nat} : i ∈ l ↔ i < n := by
  rw [h.mem_iff, List.mem_range]
theorem tidy_ok {C : CE} {fs fb fr fd fso fru ffi : Nat} (hs : ShufU C fs) (hb : BodyC C fb 0) (hr : RareC C fr) (hd : DrawC C fd) (hso : NamesLC C fso 10) (hru : NamesLC C fru 16) (hfi : NamesLC C ffi 20) {nx bk ct : SU → Hm → Prop} {rt : QU} {M : Hm} {p : Addr × Addr} {n s R : Nat} {nodes : Int} (n0 : 0 < n) (n1 : n < 100) (hR0 : 0 < R) (hR8 : R ≤ 8) (d : Dr M p)
    (hq : ∀ b M', BkG b 9 → b.n = n → b.heads.length ≤ s → b.rows.length = R → Dr M' p → Fr p M M' → rt (encBk b) M') :
    wS C (B_law_tidy_book fs fb fr fd fso fru ffi) ⟨nx, rt, bk, ct⟩ (startU 16 [.ref p.1, .int n, .int s, .int R, .int nodes]) M := by
  unfold B_law_tidy_book
  (repeat decreasing_trivial_pre_omega)
  refine hfi _ _ fun r1 FL0 M1 s1 _ hr1 hl1 hk1 => ?_
  refine hs M1 p r1 _ _ (d.sub s1) hr1 (by rw [List.length_map]; omega) fun fl ws1 M2 pe1 d2 f2 fl1 fl2 _ hfl => ?_
  obtain ⟨FL, rfl, pFL⟩ := perm_map U.str pe1 rfl
  have hF : FL.length = 20 := by rw [pFL.length_eq, hl1]
  have hFk : ∀ x ∈ FL, ok1 x := fun x hx => hk1 x (pFL.mem_iff.mp hx)
  have F2 : Fr p M M2 := s1.fr.trans f2
  (repeat decreasing_trivial_pre_omega)
  refine hru _ _ fun r2 NM0 M3 s3 _ hr2 hl2 hk2 => ?_
  refine hs M3 p r2 _ _ (d2.sub s3) hr2 (by rw [List.length_map]; omega) fun nm0 ws2 M4 pe2 d4 f4 _ _ _ hnm0 => ?_
  obtain ⟨NM1, rfl, pNM⟩ := perm_map U.str pe2 rfl
  have hfl4 := f4.at_ fl1 (s3 _ _ hfl)
  have F4 := F2.trans (s3.fr.trans f4)
  have hN1 : NM1.length = 16 := by rw [pNM.length_eq, hl2]
  (repeat decreasing_trivial_pre_omega)
  rw [cutU_take, ← List.map_take]
  intro nm hnmN
  have d5 := d4.upd (o := .lst ((NM1.take R).map U.str)) hnmN
  have nm1 := d4.ne hnmN
  have hfl5 := um_old (o := .lst ((NM1.take R).map U.str)) hfl4 hnmN
  have F5 := F4.upd (o := .lst ((NM1.take R).map U.str)) (F4.non nm1 hnmN)
  have hnm : um M4 nm (.lst ((NM1.take R).map U.str)) nm = some (.lst ((NM1.take R).map U.str)) := um_same
  have hNl : (NM1.take R).length = R := by rw [List.length_take]; omega
  have hNk : ∀ x ∈ NM1.take R, ok1 x := fun x hx => hk2 x (pNM.mem_iff.mp (List.mem_of_mem_take hx))
  generalize NM1.take R = NM at *
  generalize um M4 nm (.lst (NM.map U.str)) = M5 at *
  (repeat decreasing_trivial_pre_omega)
  refine hso _ _ fun r3 H0 M6 s6 _ hr3 hl3 hk3 => ?_
  refine hs M6 p r3 _ _ (d5.sub s6) hr3 (by rw [List.length_map]; omega) fun h1 ws3 M7 pe3 d7 f7 _ _ _ hh1 => ?_
  obtain ⟨H1, rfl, pH⟩ := perm_map U.str pe3 rfl
  have hfl7 := f7.at_ fl1 (s6 _ _ hfl5)
  have hnm7 := f7.at_ nm1 (s6 _ _ hnm)
  have F7 := F5.trans (s6.fr.trans f7)
  have hH1 : H1.length = 10 := by rw [pH.length_eq, hl3]
  (repeat decreasing_trivial_pre_omega)
  rw [cutU_take, ← List.map_take]
  intro h2 hh2
  have d8 := d7.upd (o := .lst ((H1.take s).map U.str)) hh2
  have hfl8 := um_old (o := .lst ((H1.take s).map U.str)) hfl7 hh2
  have hnm8 := um_old (o := .lst ((H1.take s).map U.str)) hnm7 hh2
  have F8 := F7.upd (o := .lst ((H1.take s).map U.str)) (F7.non (d7.ne hh2) hh2)
  have hHl : (H1.take s).length ≤ s ∧ (H1.take s).length ≤ 100 := by rw [List.length_take]; omega
  have hHk : ∀ x ∈ H1.take s, ok1 x := fun x hx => hk3 x (pH.mem_iff.mp (List.mem_of_mem_take hx))
  (repeat decreasing_trivial_pre_omega)
  generalize H1.take s = H at *
  generalize um M7 h2 (.lst (H.map U.str)) = M8 at *
  intro o hoN
  have d9 := d8.upd (o := .lst []) hoN
  have o1 := d8.ne hoN
  (repeat decreasing_trivial_pre_omega)
  intro rw hwN
  have d10 := d9.upd (o := .lst []) hwN
  have w1 := d9.ne hwN
  have w2 := d9.ne2 hwN
  have wo : rw ≠ o := um_noneN hwN
  have hw0 := um_none hwN
  have wfl : rw ≠ fl := fun e => by rw [e, hfl8] at hw0; cases hw0
  have wnm : rw ≠ nm := fun e => by rw [e, hnm8] at hw0; cases hw0
  have F10 := (F8.upd (o := .lst []) (F8.non o1 hoN)).upd (o := .lst []) (F8.non w1 hw0)
  have hfl10 := um_old (o := .lst []) (um_old (o := .lst []) hfl8 hoN) hwN
  have hnm10 := um_old (o := .lst []) (um_old (o := .lst []) hnm8 hoN) hwN
  have ho10 : um (um M8 o (.lst [])) rw (.lst []) o = some (.lst []) := um_oth wo.symm um_same
  have hw10 : um (um M8 o (.lst [])) rw (.lst []) rw = some (.lst []) := um_same
  have hMw : M rw = none := F8.non w1 hw0
  generalize um (um M8 o (.lst [])) rw (.lst []) = M10 at *
  (repeat decreasing_trivial_pre_omega)
  refine ⟨by unfold LIM; omega, by unfold LIM; omega, ?_⟩
  rw [rngU_nat]
  refine forL_by (enc := fun i : Nat => U.int (i : Nat)) (fun don rest σ M' => ∃ o u10 u11 u12 u13 G rowsL, σ = [some (.ref p.1), some (.int n), some (.int s), some (.int R), some (.int nodes), some (.ref fl), some (.ref nm), some (.dtp (H.map U.str)), some (.ref o), some (.ref rw), u10, u11, u12, u13, none, none] ∧ Dr M' p ∧ Fr2 p rw M10 M' ∧ o ≠ p.1 ∧ o ≠ rw ∧ M' o = some (.lst (G.map U.ref)) ∧ G.length = don.length ∧ (∀ r ∈ G, r ≠ rw ∧ ∃ l, StrsAt M' p r ok1 l) ∧ M' rw = some (.lst (rowsL.map encRow)) ∧ rowsL.map (·.1) = NM.take don.length ∧ (∀ r ∈ rowsL, BP (n + 1) (fun f c => ok1 f ∧ 0 ≤ c ∧ c < n) (fun r => r ∈ NM) ok1 9 r.2)) (List.range R)
    ⟨o, _, _, _, _, [], [], rfl, d10, fun _ _ _ _ h => h, o1, wo.symm, ho10, rfl, (by intro r hr; cases hr), hw10, (by simp), (by intro r hr; cases hr)⟩ ?_ ?_
  · intro don i rest σ M' kk e ⟨o, u10, u11, u12, u13, G, rowsL, e1, e2, e3, e4, e5, e6, e7, e8, e9, e10, e11⟩ hkk
    subst e1
    have hi : i = don.length := by
      have h1 : (List.range R)[don.length]? = some i := by rw [← e]; simp
      rw [List.getElem?_range (by
        have : don.length + rest.length + 1 = R := by rw [← List.length_range (n := R), ← e]; simp; omega
        omega)] at h1
      exact (Option.some.inj h1).symm
    subst hi
    have hlen : don.length < R := by
      have : don.length + rest.length + 1 = R := by rw [← List.length_range (n := R), ← e]; simp; omega
      omega
    have hfl' := e3 fl fl1 wfl.symm _ hfl10
    have hnm' := e3 nm nm1 wnm.symm _ hnm10
    have hrl : rowsL.length = don.length := by
      have := congrArg List.length e10
      rw [List.length_map, List.length_take] at this
      omega
    refine tg_one ?_
    refine tidy_mine hd e2 fl1 hfl' hF hFk (by omega) fun m Mi M11 hm hml hmN d11 f11 => ?_
    refine tidy_mid hr d11 fl1 (f11.at_ fl1 hfl') hF hFk hm hml fun x X M12 hx d12 f12 => ?_
    have f := f11.trans f12
    have mw : m ≠ rw := fun z => by rw [z, e9] at hmN; cases hmN
    refine tidy_tail hb n0 n1 d12 hHl.2 hHk nm1 (f.at_ nm1 hnm') (by omega) (k := don.length) (by omega) (hm.fr f12) hx e4 (f.at_ e4 e6) e7 (fun r hr => ?_) w1 w2 (f.at_ w1 e9) (by omega) e5 fun o' t bd M13 hbd d13 fr13 o'1 o'w ho' hw' => ?_
    · obtain ⟨g1, l, g2⟩ := e8 r hr
      exact ⟨g1, l, g2.fr f⟩
    have hmx := (hm.fr f12)
    refine hkk _ _ trivial ⟨o', _, _, _, _, _, _, rfl, d13, fun a g1 g2 ob hob => fr13 a g1 g2 ob (f.at_ g1 (e3 a g1 g2 ob hob)), o'1, o'w, ho', by simp [e7], fun r hr => ?_, hw', ?_, fun r hr => ?_⟩
    · rcases List.mem_append.mp hr with hr | hr
      · obtain ⟨g1, l, g2⟩ := e8 r hr
        have g3 := g2.fr f
        exact ⟨g1, l, g3.1, g3.2.1, g3.2.2.1, fr13 r g3.1 g1 _ g3.2.2.2⟩
      · rw [List.mem_singleton] at hr
        subst hr
        exact ⟨mw, Mi, hmx.1, hmx.2.1, hmx.2.2.1, fr13 r hmx.1 mw _ hmx.2.2.2⟩
    · rw [List.map_append, e10, List.length_append, List.length_singleton, List.take_add_one, List.getElem?_eq_getElem (by omega)]
      rfl
    · rcases List.mem_append.mp hr with hr | hr
      · exact e11 r hr
      · rw [List.mem_singleton] at hr; subst hr; exact hbd
  · intro σ M' ⟨o, u10, u11, u12, u13, G, rowsL, e1, e2, e3, e4, e5, e6, e7, e8, e9, e10, e11⟩
    subst e1
    rw [List.length_range, List.take_of_length_le (by omega)] at e10
    have hrl : rowsL.length = R := by rw [← List.length_map (f := (·.1)), e10, hNl]
    (repeat decreasing_trivial_pre_omega)
    refine ⟨by unfold LIM; omega, by unfold LIM; omega, ?_⟩
    (repeat decreasing_trivial_pre_omega)
    intro ra hra
    rw [rngU_nat]
    refine hs _ p ra _ _ (e2.upd hra) um_same (by rw [List.length_map, List.length_range]; omega) fun oq ws M14 pe d14 f14 oq1 oq2 _ hoq => ?_
    obtain ⟨L, rfl, pL⟩ := perm_map (fun i : Nat => U.int (i : Nat)) pe rfl
    have hw14 := f14.at_ w1 (um_old e9 hra)
    (repeat decreasing_trivial_pre_omega)
    refine compL_by (enc := fun i : Nat => U.int (i : Nat)) (fun don rest acc M' => M' = M14 ∧ acc = don.map fun i => encRow (rowsL.getD i ("", .done))) L ⟨rfl, rfl⟩ ?_ ?_
    · intro don i rest acc M' k e ⟨g1, g2⟩ hk
      subst g1 g2
      have hi : i < rowsL.length := by
        rw [hrl]
        exact (getD_perm_mem pL).mp (by rw [← e]; simp)
      (repeat decreasing_trivial_pre_omega)
      refine x_lst (v := encRow (rowsL.getD i ("", .done))) hw14 (by rw [atI_nat (by rw [List.length_map]; exact hi), List.getElem_map, List.getD_eq_getElem?_getD, List.getElem?_eq_getElem hi]; rfl) ?_
      (repeat decreasing_trivial_pre_omega)
      refine hk _ _ hoq (fun _ => ?_) ⟨rfl, by simp⟩
      have h1 : don.length + rest.length + 1 = L.length := by rw [← e]; simp; omega
      rw [pL.length_eq, List.length_range] at h1
      rw [List.length_map]
      unfold LIM
      omega
    · intro acc M' ⟨g1, g2⟩
      subst g1 g2
      intro y hy
      (repeat decreasing_trivial_pre_omega)
      have hrows : ∀ r ∈ L.map (fun i => rowsL.getD i (("" : Str), Bd.done)), r ∈ rowsL := fun r hr => by
        obtain ⟨i, hi, rfl⟩ := List.mem_map.mp hr
        have hi2 : i < rowsL.length := by rw [hrl]; exact (getD_perm_mem pL).mp hi
        rw [List.getD_eq_getElem?_getD, List.getElem?_eq_getElem hi2]
        exact List.getElem_mem hi2
      have hall : ∀ x ∈ NM, x ∈ (L.map (fun i => rowsL.getD i (("" : Str), Bd.done))).map (·.1) := fun x hx => by
        rw [← e10] at hx
        obtain ⟨r, hr, rfl⟩ := List.mem_map.mp hx
        obtain ⟨i, hi, rfl⟩ := List.getElem_of_mem hr
        refine List.mem_map.mpr ⟨rowsL[i], List.mem_map.mpr ⟨i, (getD_perm_mem pL).mpr (by omega), ?_⟩, rfl⟩
        rw [List.getD_eq_getElem?_getD, List.getElem?_eq_getElem hi]
        rfl
      have hLl : (L.map (fun i => rowsL.getD i (("" : Str), Bd.done))).length = R := by rw [List.length_map, pL.length_eq, List.length_range]
      have hbk := BkG.mk' (n := n) (heads := H) (rows := L.map (fun i => rowsL.getD i (("" : Str), Bd.done))) (j := 9) n0 n1 hHk hHl.2 (by omega) (by omega) fun r hr => ⟨hNk _ (by rw [← e10]; exact List.mem_map.mpr ⟨r, hrows r hr, rfl⟩), (e11 r (hrows r hr)).mono (fun _ _ h => h) hall (fun _ h => h)⟩
      have hfr : Fr p M (um M' y (.lst (L.map fun i => encRow (rowsL.getD i (("" : Str), Bd.done))))) := by
        intro a g1 ob hob
        have aw : a ≠ rw := fun z => by rw [z, hMw] at hob; cases hob
        exact um_old (f14.at_ g1 (um_old (e3 a g1 aw _ (F10 a g1 ob hob)) hra)) hy
      have e12 : (L.map fun i => encRow (rowsL.getD i (("" : Str), Bd.done))) = (L.map (fun i => rowsL.getD i (("" : Str), Bd.done))).map encRow := by rw [List.map_map]; rfl
      rw [e12] at hfr ⊢
      exact hq _ _ hbk rfl hHl.1 hLl (d14.upd hy) hfr
end Pl

set_option maxHeartbeats 2000000
/-! wild books; what lies below a body -/
namespace Pl
open PySem L2
theorem rep_flat (R : Nat) (fl : Addr) : (List.replicate ((R : Int).toNat) [U.ref fl]).flatten = (List.replicate R fl).map U.ref := by
  rw [Int.toNat_natCast]
  induction R with
  | zero => rfl
  | succ R ih => rw [List.replicate_succ, List.flatten_cons, ih, List.replicate_succ]; rfl
theorem wild_tail {C : CE} {fb : Nat} (hb : BodyC C fb 0) {nx bk ct : SU → Hm → Prop} {rt : QU} {M : Hm} {p : Addr × Addr} {n k R : Nat} {H NM FL Mi : List Str} {rowsL : List (Str × Bd)} {nm fl rw m : Addr} {u2 u11 : Option U} {nodes : Int} (n0 : 0 < n) (n1 : n < 100) (hR : R ≤ 8) (d : Dr M p)
    (hH : H.length ≤ 100) (hHk : ∀ h ∈ H, ok1 h) (nm1 : nm ≠ p.1) (hnm : M nm = some (.lst (NM.map U.str))) (hNl : NM.length = R) (hk : k < R) (hm : StrsAt M p m ok1 Mi) (hx : StrsAt M p fl ok1 FL)
    (w1 : rw ≠ p.1) (w2 : rw ≠ p.2) (hw : M rw = some (.lst (rowsL.map encRow))) (hrl : rowsL.length ≤ 100)
    (hq : ∀ t bd M', BP (n + 1) (fun f c => ok1 f ∧ 0 ≤ c ∧ c < n) (fun r => r ∈ NM) ok1 9 bd → Dr M' p → Fr2 p rw M M' → M' rw = some (.lst ((rowsL ++ [(NM[k]'(by omega), bd)]).map encRow)) →
      nx [some (.ref p.1), some (.int n), u2, some (.int R), some (.int nodes), some (.ref fl), some (.ref nm), some (.dtp (H.map U.str)), some (.ref rw), some (.int k), some (.ref m), t] M') :
    wS C (.seq (.asg 11 (.lst (.cons (.var 1) (.cons (.var 7) (.cons (.var 10) (.cons (.bin .mul (.lst (.cons (.var 5) .nil)) (.var 3)) (.cons (.var 6) (.cons (.var 5) .nil)))))))) (.seq (.expr (.mth .append (.var 8) (.cons (.tup (.cons (.ix (.var 6) (.var 9)) (.cons (.call fb (.cons (.var 0) (.cons (.var 11) (.cons (.lst .nil) (.cons (.var 4) (.cons (.int 0) .nil)))))) .nil))) .nil))) .skip))
    ⟨nx, rt, bk, ct⟩ [some (.ref p.1), some (.int n), u2, some (.int R), some (.int nodes), some (.ref fl), some (.ref nm), some (.dtp (H.map U.str)), some (.ref rw), some (.int k), some (.ref m), u11] M := by
  (repeat decreasing_trivial_pre_omega)
  intro a ha
  have d1 := d.upd (o := .lst [.ref fl]) ha
  (repeat decreasing_trivial_pre_omega)
  refine o_rep um_same (by unfold LIM; omega) (by unfold LIM; omega) (by simp; unfold LIM; omega) fun g hg => ?_
  have eG := rep_flat R fl
  rw [eG]
  have d1' := d1.upd (o := .lst ((List.replicate R fl).map U.ref)) hg
  have g1 := d1.ne hg
  have hg0 := um_none hg
  have ga := um_noneN hg
  (repeat decreasing_trivial_pre_omega)
  intro s hs
  have d2 := d1'.upd (o := .lst [.int n, .dtp (H.map U.str), .ref m, .ref g, .ref nm, .ref fl]) hs
  have s1 := d1'.ne hs
  have hs0 := um_none (um_none hs)
  have sg := um_noneN hs
  have wa : rw ≠ a := ne_of_old hw ha
  have ws : rw ≠ s := ne_of_old hw hs0
  have wg : rw ≠ g := ne_of_old hw hg0
  (repeat decreasing_trivial_pre_omega)
  refine x_lst (v := .str (NM[k]'(by omega))) (um_old (um_old (um_old hnm ha) hg) hs) (by rw [atI_nat (by rw [List.length_map]; omega), List.getElem_map]) ?_
  (repeat decreasing_trivial_pre_omega)
  intro q hq0
  have d3 := d2.upd (o := .lst []) hq0
  have q1 := d2.ne hq0
  have hq1 := um_none hq0
  have qs := um_noneN hq0
  have hq2 := um_none hq1
  have qg := um_noneN hq1
  have S0 : Sub M (um (um (um (um M a (.lst [.ref fl])) g (.lst ((List.replicate R fl).map U.ref))) s (.lst [.int n, .dtp (H.map U.str), .ref m, .ref g, .ref nm, .ref fl])) q (.lst [])) := sub_um (sub_um (sub_um (sub_um (Sub.refl _) ha) hg0) hs0) (um_none hq2)
  have e_s : um (um (um (um M a (.lst [.ref fl])) g (.lst ((List.replicate R fl).map U.ref))) s (.lst [.int n, .dtp (H.map U.str), .ref m, .ref g, .ref nm, .ref fl])) q (.lst []) s = some (.lst [.int n, .dtp (H.map U.str), .ref m, .ref g, .ref nm, .ref fl]) := um_oth qs.symm um_same
  have e_g : um (um (um (um M a (.lst [.ref fl])) g (.lst ((List.replicate R fl).map U.ref))) s (.lst [.int n, .dtp (H.map U.str), .ref m, .ref g, .ref nm, .ref fl])) q (.lst []) g = some (.lst ((List.replicate R fl).map U.ref)) := um_oth qg.symm (um_oth sg.symm um_same)
  have e_q : um (um (um (um M a (.lst [.ref fl])) g (.lst ((List.replicate R fl).map U.ref))) s (.lst [.int n, .dtp (H.map U.str), .ref m, .ref g, .ref nm, .ref fl])) q (.lst []) q = some (.lst []) := um_same
  generalize um (um (um (um M a (.lst [.ref fl])) g (.lst ((List.replicate R fl).map U.ref))) s (.lst [.int n, .dtp (H.map U.str), .ref m, .ref g, .ref nm, .ref fl])) q (.lst []) = M3 at d3 S0 e_s e_g e_q ⊢
  have F3 : Fr p M M3 := S0.fr
  have hx3 := hx.fr F3
  (repeat decreasing_trivial_pre_omega)
  refine hb M3 p s q n ok1 (fun r => r ∈ NM) ok1 nodes 9 _ (by decide) n0 n1 d3 ?_ ?_ fun bd M4 hbd d4 fr4 => ?_
  · refine ⟨H, Mi, NM, FL, m, g, nm, fl, List.replicate R fl, .dtp (H.map U.str), s1, e_s, ⟨hH, .inr rfl⟩, hHk, hm.fr F3, ⟨nm1, by omega, fun y hy => hy, S0 _ _ hnm⟩, hx3, g1, e_g, by rw [List.length_replicate]; omega, fun r hr => ?_⟩
    rw [List.eq_of_mem_replicate hr]
    exact ⟨FL, hx3⟩
  · exact ⟨[], _, _, _, _, _, g, List.replicate R fl, q1, e_q, by decide, e_s, e_g, s1, g1, by intro i hi; cases hi⟩
  have hw4 := fr4.at_ w1 (S0 _ _ hw)
  (repeat decreasing_trivial_pre_omega)
  refine m_app hw4 (by rw [List.length_map]; unfold LIM; omega) ?_
  have e9 : rowsL.map encRow ++ [.tup [.str (NM[k]'(by omega)), encB bd]] = (rowsL ++ [(NM[k]'(by omega), bd)]).map encRow := by simp [encRow]
  rw [e9]
  have d5 := d4.upd2 (o := .lst ((rowsL ++ [(NM[k]'(by omega), bd)]).map encRow)) w1 w2
  (repeat decreasing_trivial_pre_omega)
  refine hq _ bd _ hbd d5 ?_ um_same
  intro b1 g1 g2 ob hob
  exact um_oth g2 (fr4 b1 g1 _ (S0 _ _ hob))
theorem wild_mine {C : CE} {fp fr : Nat} (hp : PickC C fp) (hr : RareC C fr) {T : S} {nx bk ct : SU → Hm → Prop} {rt : QU} {M : Hm} {p : Addr × Addr} {FL H : List Str} {fl : Addr} {u1 u2 u3 u4 u6 u8 u9 u10 u11 : Option U} (d : Dr M p)
    (hfl : StrsAt M p fl ok1 FL) (hF0 : FL ≠ []) (hH : H.length ≤ 50) (hHk : ∀ h ∈ H, ok1 h)
    (hq : ∀ m Mi M', StrsAt M' p m ok1 Mi → Dr M' p → Fr p M M' → wS C T ⟨nx, rt, bk, ct⟩ [some (.ref p.1), u1, u2, u3, u4, some (.ref fl), u6, some (.dtp (H.map U.str)), u8, u9, some (.ref m), u11] M') :
    wS C (.seq (.asg 10 (.lst (.cons (.call fp (.cons (.var 0) (.cons (.var 5) .nil))) (.cons (.call fp (.cons (.var 0) (.cons (.var 5) .nil))) .nil)))) (.seq (.ifs (.call fr (.cons (.var 0) (.cons (.int 9) .nil))) (.seq (.asg 10 (.bin .add (.var 10) (.blt .list (.cons (.var 7) .nil)))) .skip) .skip) T))
    ⟨nx, rt, bk, ct⟩ [some (.ref p.1), u1, u2, u3, u4, some (.ref fl), u6, some (.dtp (H.map U.str)), u8, u9, u10, u11] M := by
  have unm : ∀ {x : U}, x ∈ FL.map U.str → ∃ f, f ∈ FL ∧ x = .str f := fun {x} hx => by
    obtain ⟨f, hf, rfl⟩ := List.mem_map.mp hx
    exact ⟨f, hf, rfl⟩
  have hl : (FL.map U.str).length < 1073741824 := by rw [List.length_map]; have := hfl.2.1; omega
  (repeat decreasing_trivial_pre_omega)
  refine hp M p _ _ _ d (.inr ⟨fl, rfl, hfl.1, hfl.2.2.2⟩) (by simpa using hF0) hl fun x M1 hx d1 f1 => ?_
  obtain ⟨x, hx2, rfl⟩ := unm hx
  have hfl1 := hfl.fr f1
  (repeat decreasing_trivial_pre_omega)
  refine hp M1 p _ _ _ d1 (.inr ⟨fl, rfl, hfl1.1, hfl1.2.2.2⟩) (by simpa using hF0) hl fun y M2 hy d2 f2 => ?_
  obtain ⟨y, hy2, rfl⟩ := unm hy
  (repeat decreasing_trivial_pre_omega)
  intro m hm
  have m1 := d2.ne hm
  have d3 := d2.upd (o := .lst [.str x, .str y]) hm
  have f12 := f1.trans f2
  have F3 := f12.upd (o := .lst [.str x, .str y]) (f12.non m1 hm)
  have hmi : StrsAt (um M2 m (.lst [.str x, .str y])) p m ok1 [x, y] := ⟨m1, by simp, fun z hz => by
    rcases List.mem_cons.mp hz with rfl | hz
    · exact hfl.2.2.1 _ hx2
    · rw [List.mem_singleton] at hz; subst hz; exact hfl.2.2.1 _ hy2, um_same⟩
  generalize um M2 m (.lst [.str x, .str y]) = M3 at d3 F3 hmi ⊢
  (repeat decreasing_trivial_pre_omega)
  refine hr M3 p 9 _ d3 (by decide) (by decide) fun b M4 d4 f4 => ?_
  have hm4 := hmi.fr f4
  cases b with
  | false =>
    (repeat decreasing_trivial_pre_omega)
    exact hq m _ M4 hm4 d4 (F3.trans f4)
  | true =>
    obtain ⟨g1, g2, g3, g4⟩ := hm4
    (repeat decreasing_trivial_pre_omega)
    intro a ha
    have d5 := d4.upd (o := .lst (H.map U.str)) ha
    (repeat decreasing_trivial_pre_omega)
    refine o_addL (um_old g4 ha) um_same (by rw [List.length_map, List.length_map]; simp; unfold LIM; omega) fun y' hy' => ?_
    rw [← List.map_append]
    (repeat decreasing_trivial_pre_omega)
    refine hq y' _ _ ⟨d5.ne hy', by simp; omega, fun z hz => ?_, um_same⟩ (d5.upd hy') ((F3.trans f4).trans (sub_um (sub_um (Sub.refl _) ha) (um_none hy')).fr)
    rcases List.mem_append.mp hz with hz | hz
    · exact g3 z hz
    · exact hHk z hz
theorem wild_ok {C : CE} {fb fr fp fs fso fru ffi : Nat} (hb : BodyC C fb 0) (hr : RareC C fr) (hp : PickC C fp) (hs : ShufU C fs) (hso : NamesLC C fso 10) (hru : NamesLC C fru 16) (hfi : NamesLC C ffi 20) {nx bk ct : SU → Hm → Prop} {rt : QU} {M : Hm} {p : Addr × Addr} {n s R : Nat} {nodes : Int} (n0 : 0 < n) (n1 : n < 100) (hR0 : 0 < R) (hR8 : R ≤ 8) (d : Dr M p)
    (hq : ∀ b M', BkG b 9 → b.n = n → b.heads.length ≤ s → b.rows.length = R → Dr M' p → Fr p M M' → rt (encBk b) M') :
    wS C (B_law_wild_book fb fr fp fs fso fru ffi) ⟨nx, rt, bk, ct⟩ (startU 12 [.ref p.1, .int n, .int s, .int R, .int nodes]) M := by
  unfold B_law_wild_book
  (repeat decreasing_trivial_pre_omega)
  refine hfi _ _ fun r1 FL0 M1 s1 _ hr1 hl1 hk1 => ?_
  refine hs M1 p r1 _ _ (d.sub s1) hr1 (by rw [List.length_map]; omega) fun fl0 ws1 M2 pe1 d2' f2 _ _ _ hfl0 => ?_
  obtain ⟨FL1, rfl, pFL⟩ := perm_map U.str pe1 rfl
  have F2' : Fr p M M2 := s1.fr.trans f2
  (repeat decreasing_trivial_pre_omega)
  rw [show (some (3 : Int)) = some ((3 : Nat) : Int) from rfl, cutU_take, ← List.map_take]
  intro fl hflN
  have fl1 := d2'.ne hflN
  have d2 := d2'.upd (o := .lst ((FL1.take 3).map U.str)) hflN
  have F2 := F2'.upd (o := .lst ((FL1.take 3).map U.str)) (F2'.non fl1 hflN)
  have hfl : um M2 fl (.lst ((FL1.take 3).map U.str)) fl = some (.lst ((FL1.take 3).map U.str)) := um_same
  have hF : (FL1.take 3).length = 3 := by rw [List.length_take, pFL.length_eq, hl1]; rfl
  have hFk : ∀ x ∈ FL1.take 3, ok1 x := fun x hx => hk1 x (pFL.mem_iff.mp (List.mem_of_mem_take hx))
  generalize FL1.take 3 = FL at *
  generalize um M2 fl (.lst (FL.map U.str)) = M2 at *
  (repeat decreasing_trivial_pre_omega)
  refine hru _ _ fun r2 NM0 M3 s3 _ hr2 hl2 hk2 => ?_
  refine hs M3 p r2 _ _ (d2.sub s3) hr2 (by rw [List.length_map]; omega) fun nm0 ws2 M4 pe2 d4 f4 _ _ _ hnm0 => ?_
  obtain ⟨NM1, rfl, pNM⟩ := perm_map U.str pe2 rfl
  have hfl4 := f4.at_ fl1 (s3 _ _ hfl)
  have F4 := F2.trans (s3.fr.trans f4)
  have hN1 : NM1.length = 16 := by rw [pNM.length_eq, hl2]
  (repeat decreasing_trivial_pre_omega)
  rw [cutU_take, ← List.map_take]
  intro nm hnmN
  have d5 := d4.upd (o := .lst ((NM1.take R).map U.str)) hnmN
  have nm1 := d4.ne hnmN
  have hfl5 := um_old (o := .lst ((NM1.take R).map U.str)) hfl4 hnmN
  have F5 := F4.upd (o := .lst ((NM1.take R).map U.str)) (F4.non nm1 hnmN)
  have hnm : um M4 nm (.lst ((NM1.take R).map U.str)) nm = some (.lst ((NM1.take R).map U.str)) := um_same
  have hNl : (NM1.take R).length = R := by rw [List.length_take]; omega
  have hNk : ∀ x ∈ NM1.take R, ok1 x := fun x hx => hk2 x (pNM.mem_iff.mp (List.mem_of_mem_take hx))
  generalize NM1.take R = NM at *
  generalize um M4 nm (.lst (NM.map U.str)) = M5 at *
  (repeat decreasing_trivial_pre_omega)
  refine hso _ _ fun r3 H0 M6 s6 _ hr3 hl3 hk3 => ?_
  refine hs M6 p r3 _ _ (d5.sub s6) hr3 (by rw [List.length_map]; omega) fun h1 ws3 M7 pe3 d7 f7 _ _ _ hh1 => ?_
  obtain ⟨H1, rfl, pH⟩ := perm_map U.str pe3 rfl
  have hfl7 := f7.at_ fl1 (s6 _ _ hfl5)
  have hnm7 := f7.at_ nm1 (s6 _ _ hnm)
  have F7 := F5.trans (s6.fr.trans f7)
  have hH1 : H1.length = 10 := by rw [pH.length_eq, hl3]
  (repeat decreasing_trivial_pre_omega)
  rw [cutU_take, ← List.map_take]
  intro h2 hh2
  have d8 := d7.upd (o := .lst ((H1.take s).map U.str)) hh2
  have hfl8 := um_old (o := .lst ((H1.take s).map U.str)) hfl7 hh2
  have hnm8 := um_old (o := .lst ((H1.take s).map U.str)) hnm7 hh2
  have F8 := F7.upd (o := .lst ((H1.take s).map U.str)) (F7.non (d7.ne hh2) hh2)
  have hHl : (H1.take s).length ≤ s ∧ (H1.take s).length ≤ 50 := by rw [List.length_take]; omega
  have hHk : ∀ x ∈ H1.take s, ok1 x := fun x hx => hk3 x (pH.mem_iff.mp (List.mem_of_mem_take hx))
  (repeat decreasing_trivial_pre_omega)
  generalize H1.take s = H at *
  generalize um M7 h2 (.lst (H.map U.str)) = M8 at *
  intro rw hwN
  have d10 := d8.upd (o := .lst []) hwN
  have w1 := d8.ne hwN
  have w2 := d8.ne2 hwN
  have wfl : rw ≠ fl := fun e => by rw [e, hfl8] at hwN; cases hwN
  have wnm : rw ≠ nm := fun e => by rw [e, hnm8] at hwN; cases hwN
  have F10 := F8.upd (o := .lst []) (F8.non w1 hwN)
  have hfl10 := um_old (o := .lst []) hfl8 hwN
  have hnm10 := um_old (o := .lst []) hnm8 hwN
  have hw10 : um M8 rw (.lst []) rw = some (.lst []) := um_same
  have hMw : M rw = none := F8.non w1 hwN
  generalize um M8 rw (.lst []) = M10 at *
  (repeat decreasing_trivial_pre_omega)
  refine ⟨by unfold LIM; omega, by unfold LIM; omega, ?_⟩
  rw [rngU_nat]
  refine forL_by (enc := fun i : Nat => U.int (i : Nat)) (fun don rest σ M' => ∃ u9 u10 u11 rowsL, σ = [some (.ref p.1), some (.int n), some (.int s), some (.int R), some (.int nodes), some (.ref fl), some (.ref nm), some (.dtp (H.map U.str)), some (.ref rw), u9, u10, u11] ∧ Dr M' p ∧ Fr2 p rw M10 M' ∧ M' rw = some (.lst (rowsL.map encRow)) ∧ rowsL.map (·.1) = NM.take don.length ∧ (∀ r ∈ rowsL, BP (n + 1) (fun f c => ok1 f ∧ 0 ≤ c ∧ c < n) (fun r => r ∈ NM) ok1 9 r.2)) (List.range R)
    ⟨_, _, _, [], rfl, d10, fun _ _ _ _ h => h, hw10, (by simp), (by intro r hr; cases hr)⟩ ?_ ?_
  · intro don i rest σ M' kk e ⟨u9, u10, u11, rowsL, e1, e2, e3, e9, e10, e11⟩ hkk
    subst e1
    have hi : i = don.length := by
      have h1 : (List.range R)[don.length]? = some i := by rw [← e]; simp
      rw [List.getElem?_range (by
        have : don.length + rest.length + 1 = R := by rw [← List.length_range (n := R), ← e]; simp; omega
        omega)] at h1
      exact (Option.some.inj h1).symm
    subst hi
    have hlen : don.length < R := by
      have : don.length + rest.length + 1 = R := by rw [← List.length_range (n := R), ← e]; simp; omega
      omega
    have hfl' := e3 fl fl1 wfl.symm _ hfl10
    have hnm' := e3 nm nm1 wnm.symm _ hnm10
    have hrl : rowsL.length = don.length := by
      have := congrArg List.length e10
      rw [List.length_map, List.length_take] at this
      omega
    refine tg_one ?_
    have hFS : StrsAt M' p fl ok1 FL := ⟨fl1, by omega, hFk, hfl'⟩
    refine wild_mine hp hr e2 hFS (by intro z; rw [z] at hF; cases hF) hHl.2 hHk fun m Mi M12 hm d12 f => ?_
    refine wild_tail hb n0 n1 hR8 d12 (by omega) hHk nm1 (f.at_ nm1 hnm') hNl (k := don.length) hlen hm (hFS.fr f) w1 w2 (f.at_ w1 e9) (by omega) fun t bd M13 hbd d13 fr13 hw' => ?_
    refine hkk _ _ trivial ⟨_, _, _, _, rfl, d13, fun a g1 g2 ob hob => fr13 a g1 g2 ob (f.at_ g1 (e3 a g1 g2 ob hob)), hw', ?_, fun r hr => ?_⟩
    · rw [List.map_append, e10, List.length_append, List.length_singleton, List.take_add_one, List.getElem?_eq_getElem (by omega)]
      rfl
    · rcases List.mem_append.mp hr with hr | hr
      · exact e11 r hr
      · rw [List.mem_singleton] at hr; subst hr; exact hbd
  · intro σ M' ⟨u9, u10, u11, rowsL, e1, e2, e3, e9, e10, e11⟩
    subst e1
    rw [List.length_range, List.take_of_length_le (by omega)] at e10
    have hrl : rowsL.length = R := by rw [← List.length_map (f := (·.1)), e10, hNl]
    (repeat decreasing_trivial_pre_omega)
    have hbk := BkG.mk' (n := n) (heads := H) (rows := rowsL) (j := 9) n0 n1 hHk (by omega) (by omega) (by omega) fun r hr => ⟨hNk _ (by rw [← e10]; exact List.mem_map.mpr ⟨r, hr, rfl⟩), (e11 r hr).mono (fun _ _ h => h) (fun x hx => by rw [e10]; exact hx) (fun _ h => h)⟩
    refine hq _ _ hbk rfl hHl.1 hrl e2 ?_
    intro a g1 ob hob
    have aw : a ≠ rw := fun z => by rw [z, hMw] at hob; cases hob
    exact e3 a g1 aw _ (F10 a g1 ob hob)
end Pl

set_option maxHeartbeats 2000000
/-! what lies below a body -/
namespace Pl
open PySem L2
def kidsM : Bd → List Bd
  | .done => []
  | .put _ _ b => [b]
  | .ask _ b => [b]
  | .see _ bs => bs
theorem kids_ok {C : CE} {nx bk ct : SU → Hm → Prop} {rt : QU} {M : Hm} {b : Bd} (hq : ∀ r M', M r = none → Sub M M' → M' r = some (.lst ((kidsM b).map encB)) → rt (.ref r) M') : wS C B_law_bodies_of ⟨nx, rt, bk, ct⟩ (startU 1 [encB b]) M := by
  unfold B_law_bodies_of
  cases b with
  | done =>
    unfold encB
    (repeat decreasing_trivial_pre_omega)
    intro r hr
    exact hq r _ hr (sub_um (Sub.refl _) hr) um_same
  | put f c b =>
    unfold encB
    (repeat decreasing_trivial_pre_omega)
    intro r hr
    exact hq r _ hr (sub_um (Sub.refl _) hr) um_same
  | ask f b =>
    unfold encB
    (repeat decreasing_trivial_pre_omega)
    intro r hr
    exact hq r _ hr (sub_um (Sub.refl _) hr) um_same
  | see f bs =>
    unfold encB
    (repeat decreasing_trivial_pre_omega)
    intro r hr
    rw [encBs_map] at *
    exact hq r _ hr (sub_um (Sub.refl _) hr) um_same
def KidsC (C : CE) (f : Nat) : Prop := ∀ (M : Hm) (b : Bd) (Q : QU), (∀ r M', M r = none → Sub M M' → M' r = some (.lst ((kidsM b).map encB)) → Q (.ref r) M') → C f [encB b] M Q
section
variable {n : Nat} {pp : Str → Int → Prop} {pa ps : Str → Prop}
theorem BP.kids {j : Nat} {b : Bd} (h : BP n pp pa ps j b) : (kidsM b).length ≤ n + 1 ∧ ∀ x ∈ kidsM b, ∃ i, BP n pp pa ps i x := by
  cases h with
  | done => exact ⟨Nat.zero_le _, fun x hx => by cases hx⟩
  | put a h => exact ⟨by simp [kidsM], fun x hx => by rw [List.mem_singleton.mp hx]; exact ⟨_, h⟩⟩
  | ask a h => exact ⟨by simp [kidsM], fun x hx => by rw [List.mem_singleton.mp hx]; exact ⟨_, h⟩⟩
  | see a l h => exact ⟨by show List.length _ ≤ _; simp only [kidsM]; omega, fun x hx => ⟨_, h x hx⟩⟩
theorem BP.up {j : Nat} {b : Bd} (h : BP n pp pa ps j b) : BP n pp pa ps (j + 1) b := by
  induction h with
  | done => exact .done
  | put a _ ih => exact .put a ih
  | ask a _ ih => exact .ask a ih
  | see a l _ ih => exact .see a l ih
def WoC (C : CE) (f j : Nat) : Prop := ∀ (M : Hm) (b : Bd) (n : Nat) (pp : Str → Int → Prop) (pa ps : Str → Prop) (Q : QU), n ≤ 100 → BP n pp pa ps j b → (∀ b' M', BP n pp pa ps j b' → Sub M M' → Q (encB b') M') → C f [encB b] M Q
theorem without_ok {C : CE} {f j : Nat} (h : ∀ i, j = i + 1 → WoC C f i) {nx bk ct : SU → Hm → Prop} {rt : QU} {M : Hm} {b : Bd} (hn : n ≤ 100) (hb : BP n pp pa ps j b) (hq : ∀ b' M', BP n pp pa ps j b' → Sub M M' → rt (encB b') M') : wS C (B_law_without_asks f) ⟨nx, rt, bk, ct⟩ (startU 2 [encB b]) M := by
  unfold B_law_without_asks
  cases hb with
  | done =>
    unfold encB
    (repeat decreasing_trivial_pre_omega)
    exact hq .done M .done (Sub.refl _)
  | @put j fi c k a hk =>
    have h := h j rfl
    unfold encB
    (repeat decreasing_trivial_pre_omega)
    refine h _ _ _ _ _ _ _ hn hk fun b' M' hb' s => ?_
    (repeat decreasing_trivial_pre_omega)
    exact hq (.put fi c b') M' (.put a hb') s
  | @ask j r k a hk =>
    have h := h j rfl
    unfold encB
    (repeat decreasing_trivial_pre_omega)
    refine h _ _ _ _ _ _ _ hn hk fun b' M' hb' s => ?_
    exact hq b' M' hb'.up s
  | @see j fi bs a l hk =>
    have h := h j rfl
    unfold encB
    rw [encBs_map]
    (repeat decreasing_trivial_pre_omega)
    refine compL_by (enc := encB) (fun don rest acc M' => Sub M M' ∧ ∃ cs : List Bd, acc = cs.map encB ∧ cs.length = don.length ∧ ∀ c ∈ cs, BP n pp pa ps j c) bs ⟨Sub.refl _, [], rfl, rfl, by simp⟩ ?_ ?_
    · intro don x rest acc M' k e ⟨e1, cs, e2, e3, e4⟩ hk2
      subst e2
      (repeat decreasing_trivial_pre_omega)
      refine h _ _ _ _ _ _ _ hn (hk x (by rw [← e]; simp)) fun b' M2 hb' s => ?_
      refine hk2 _ _ trivial (fun _ => ?_) ⟨e1.trans s, cs ++ [b'], by simp, by simp [e3], fun c hc => ?_⟩
      · have : don.length + rest.length + 1 = bs.length := by rw [← e]; simp; omega
        rw [List.length_map]
        unfold LIM
        omega
      · rcases List.mem_append.mp hc with hc | hc
        · exact e4 c hc
        · rw [List.mem_singleton] at hc; subst hc; exact hb'
    · intro acc M' ⟨e1, cs, e2, e3, e4⟩
      subst e2
      intro y hy
      (repeat decreasing_trivial_pre_omega)
      have := hq (.see fi cs) (um M' y (.lst (cs.map encB))) (.see a (by omega) e4) (e1.trans (sub_um (Sub.refl _) hy))
      unfold encB at this
      rw [encBs_map] at this
      exact this
def PutFC (C : CE) (f : Nat) : Prop := ∀ (M : Hm) (b : Bd) (n j : Nat) (pp : Str → Int → Prop) (pa ps : Str → Prop) (Q : QU), n ≤ 100 → (∀ f c, pp f c → ok1 f) → BP n pp pa ps j b → (∀ (r : Addr) (l : List Str) M', M r = none → Sub M M' → M' r = some (.lst (l.map U.str)) → l.length ≤ 200 → (∀ x ∈ l, ok1 x) → Q (.ref r) M') → C f [encB b] M Q
theorem last_get {α : Type} (l : List α) (x : α) : (l ++ [x])[(l ++ [x]).length - 1]? = some x := by simp
theorem putf_ok {C : CE} {f j : Nat} (hk : KidsC C f) {nx bk ct : SU → Hm → Prop} {rt : QU} {M : Hm} {b : Bd} (hn : n ≤ 100) (hpp : ∀ f c, pp f c → ok1 f) (hb : BP n pp pa ps j b)
    (hq : ∀ (r : Addr) (l : List Str) M', M r = none → Sub M M' → M' r = some (.lst (l.map U.str)) → l.length ≤ 200 → (∀ x ∈ l, ok1 x) → rt (.ref r) M') : wS C (B_law_put_files f) ⟨nx, rt, bk, ct⟩ (startU 5 [encB b]) M := by
  unfold B_law_put_files
  (repeat decreasing_trivial_pre_omega)
  intro r hr
  (repeat decreasing_trivial_pre_omega)
  intro q hq0
  have qr := um_noneN hq0
  have q0 := um_none hq0
  (repeat decreasing_trivial_pre_omega)
  refine ⟨by simp [LIM], by simp [LIM], ?_⟩
  rw [show (200 : Int) = ((200 : Nat) : Int) from rfl, rngU_nat]
  refine forL_by (enc := fun i : Nat => U.int (i : Nat)) (fun don rest σ M' => ∃ u3 u4 l lf, σ = [some (encB b), some (.ref r), some (.ref q), u3, u4] ∧ Sub M M' ∧ M' r = some (.lst (l.map U.str)) ∧ M' q = some (.lst (lf.map encB)) ∧ l.length ≤ don.length ∧ lf.length ≤ 1 + 101 * don.length ∧ (∀ x ∈ l, ok1 x) ∧ ∀ x ∈ lf, ∃ i, BP n pp pa ps i x) (List.range 200)
    ⟨_, _, [], [b], rfl, sub_um (sub_um (Sub.refl _) hr) q0, um_oth qr.symm um_same, um_same, Nat.le_refl _, by simp, (by simp), by intro x hx; rw [List.mem_singleton] at hx; subst hx; exact ⟨_, hb⟩⟩ ?_ ?_
  · intro don i rest σ M' kk e ⟨u3, u4, l, lf, e1, e2, e3, e4, e5, e6, e7, e8⟩ hkk
    subst e1
    have hlen : don.length < 200 := by
      have : don.length + rest.length + 1 = 200 := by rw [← List.length_range (n := 200), ← e]; simp; omega
      omega
    rcases List.eq_nil_or_concat lf with rfl | ⟨li, x, rfl⟩
    · (repeat decreasing_trivial_pre_omega)
      exact hq r l M' hr e2 e3 (by omega) e7
    · rw [List.concat_eq_append] at *
      obtain ⟨ix, hx⟩ := e8 x (by simp)
      have e4' : M' q = some (.lst (li.map encB ++ [encB x])) := by rw [e4, List.map_append]; rfl
      have hnn : ¬ li.map encB ++ [encB x] = [] := by simp
      have rq : r ≠ q := qr.symm
      -- behind the put
      have rest2 : ∀ (bk2 : SU → Hm → Prop) (l2 : List Str) (M2 : Hm), Sub M M2 → M2 r = some (.lst (l2.map U.str)) → M2 q = some (.lst (li.map encB)) → l2.length ≤ don.length + 1 → (∀ x ∈ l2, ok1 x) →
          wS C (.seq (.expr (.mth .extend (.var 2) (.cons (.call f (.cons (.var 4) .nil)) .nil))) .skip) ⟨kk, rt, bk2, kk⟩ [some (encB b), some (.ref r), some (.ref q), some (.int i), some (encB x)] M2 := fun bk2 l2 M2 g1 g2 g3 g4 g5 => by
        (repeat decreasing_trivial_pre_omega)
        refine hk _ _ _ fun y M3 hy s3 hy3 => ?_
        have g2' := s3 _ _ g2
        have g3' := s3 _ _ g3
        have hkl := hx.kids
        rw [List.length_append, List.length_singleton] at e6
        (repeat decreasing_trivial_pre_omega)
        refine m_ext g3' hy3 (by rw [List.length_map, List.length_map]; unfold LIM; omega) ?_
        rw [← List.map_append]
        (repeat decreasing_trivial_pre_omega)
        refine hkk _ _ trivial ⟨_, _, l2, li ++ kidsM x, rfl, sub_um (g1.trans s3) q0, um_oth rq g2', um_same, by simp; omega, by simp only [List.length_append, List.length_singleton]; omega, g5, fun z hz => ?_⟩
        rcases List.mem_append.mp hz with hz | hz
        · exact e8 z (List.mem_append_left _ hz)
        · exact hkl.2 z hz
      generalize S.seq (.expr (.mth .extend (.var 2) (.cons (.call f (.cons (.var 4) .nil)) .nil))) .skip = T at rest2 ⊢
      (repeat decreasing_trivial_pre_omega)
      refine m_pop e4' (last_get _ _) ?_
      rw [List.dropLast_concat]
      have r3 : um M' q (.lst (li.map encB)) r = some (.lst (l.map U.str)) := um_oth rq e3
      have s3 : Sub M (um M' q (.lst (li.map encB))) := sub_um e2 q0
      have q3 : um M' q (.lst (li.map encB)) q = some (.lst (li.map encB)) := um_same
      generalize um M' q (.lst (li.map encB)) = M2 at r3 s3 q3 ⊢
      cases hx with
      | done =>
        unfold encB at rest2 ⊢
        (repeat decreasing_trivial_pre_omega)
        exact rest2 _ l M2 s3 r3 q3 (by omega) e7
      | ask a h =>
        unfold encB at rest2 ⊢
        (repeat decreasing_trivial_pre_omega)
        exact rest2 _ l M2 s3 r3 q3 (by omega) e7
      | see a h1 h2 =>
        unfold encB at rest2 ⊢
        (repeat decreasing_trivial_pre_omega)
        exact rest2 _ l M2 s3 r3 q3 (by omega) e7
      | @put _ fi c _ a h =>
        unfold encB at rest2 ⊢
        (repeat decreasing_trivial_pre_omega)
        have okl : okL (l.map U.str) = true := okL_of fun y hy => by
          obtain ⟨s, hs, rfl⟩ := List.mem_map.mp hy
          exact e7 s hs
        refine nin_lst r3 (hpp _ _ a) okl ?_
        by_cases hin : fi ∈ l
        · refine i_iff (by rw [decide_eq_true (mem_strs.mpr hin)]; rfl) ?_
          (repeat decreasing_trivial_pre_omega)
          exact rest2 _ l M2 s3 r3 q3 (by omega) e7
        · refine i_ift (by rw [decide_eq_false fun z => hin (mem_strs.mp z)]; rfl) ?_
          (repeat decreasing_trivial_pre_omega)
          refine m_app r3 (by rw [List.length_map]; unfold LIM; omega) ?_
          have e9 : l.map U.str ++ [.str fi] = (l ++ [fi]).map U.str := by simp
          rw [e9]
          (repeat decreasing_trivial_pre_omega)
          refine rest2 _ (l ++ [fi]) _ (sub_um s3 hr) um_same (um_oth qr q3) (by simp; omega) fun z hz => ?_
          rcases List.mem_append.mp hz with hz | hz
          · exact e7 z hz
          · rw [List.mem_singleton] at hz; subst hz; exact hpp _ _ a
  · intro σ M' ⟨u3, u4, l, lf, e1, e2, e3, e4, e5, e6, e7, e8⟩
    subst e1
    (repeat decreasing_trivial_pre_omega)
    exact hq r l M' hr e2 e3 (by rw [List.length_range] at e5; omega) e7
def NodesC (C : CE) (f : Nat) : Prop := ∀ (M : Hm) (b : Bd) (n j : Nat) (pp : Str → Int → Prop) (pa ps : Str → Prop) (Q : QU), n ≤ 100 → BP n pp pa ps j b → (∀ (m : Nat) M', Sub M M' → m ≤ 400 → Q (.int m) M') → C f [encB b] M Q
theorem nodes_ok {C : CE} {f j : Nat} (hk : KidsC C f) {nx bk ct : SU → Hm → Prop} {rt : QU} {M : Hm} {b : Bd} (hn : n ≤ 100) (hb : BP n pp pa ps j b)
    (hq : ∀ (m : Nat) M', Sub M M' → m ≤ 400 → rt (.int m) M') : wS C (B_law_nodes f) ⟨nx, rt, bk, ct⟩ (startU 4 [encB b]) M := by
  unfold B_law_nodes
  (repeat decreasing_trivial_pre_omega)
  intro q q0
  (repeat decreasing_trivial_pre_omega)
  refine ⟨by simp [LIM], by simp [LIM], ?_⟩
  rw [show (400 : Int) = ((400 : Nat) : Int) from rfl, rngU_nat]
  refine forL_by (enc := fun i : Nat => U.int (i : Nat)) (fun don rest σ M' => ∃ u3 lf, ∃ m : Nat, σ = [some (encB b), some (.int m), some (.ref q), u3] ∧ Sub M M' ∧ M' q = some (.lst (lf.map encB)) ∧ m ≤ don.length ∧ lf.length ≤ 1 + 101 * don.length ∧ ∀ x ∈ lf, ∃ i, BP n pp pa ps i x) (List.range 400)
    ⟨_, [b], 0, rfl, sub_um (Sub.refl _) q0, um_same, Nat.le_refl _, by simp, by intro x hx; rw [List.mem_singleton] at hx; subst hx; exact ⟨_, hb⟩⟩ ?_ ?_
  · intro don i rest σ M' kk e ⟨u3, lf, m, e1, e2, e4, e5, e6, e8⟩ hkk
    subst e1
    have hlen : don.length < 400 := by
      have : don.length + rest.length + 1 = 400 := by rw [← List.length_range (n := 400), ← e]; simp; omega
      omega
    rcases List.eq_nil_or_concat lf with rfl | ⟨li, x, rfl⟩
    · (repeat decreasing_trivial_pre_omega)
      exact hq m M' e2 (by omega)
    · rw [List.concat_eq_append] at *
      obtain ⟨ix, hx⟩ := e8 x (by simp)
      have e4' : M' q = some (.lst (li.map encB ++ [encB x])) := by rw [e4, List.map_append]; rfl
      have hnn : ¬ li.map encB ++ [encB x] = [] := by simp
      have hkl := hx.kids
      rw [List.length_append, List.length_singleton] at e6
      (repeat decreasing_trivial_pre_omega)
      refine m_pop e4' (last_get _ _) ?_
      rw [List.dropLast_concat]
      have s3 : Sub M (um M' q (.lst (li.map encB))) := sub_um e2 q0
      have q3 : um M' q (.lst (li.map encB)) q = some (.lst (li.map encB)) := um_same
      generalize um M' q (.lst (li.map encB)) = M2 at s3 q3 ⊢
      (repeat decreasing_trivial_pre_omega)
      refine hk _ _ _ fun y M3 hy s4 hy3 => ?_
      have g3' := s4 _ _ q3
      (repeat decreasing_trivial_pre_omega)
      refine m_ext g3' hy3 (by rw [List.length_map, List.length_map]; unfold LIM; omega) ?_
      rw [← List.map_append]
      (repeat decreasing_trivial_pre_omega)
      refine hkk _ _ trivial ⟨_, li ++ kidsM x, m + 1, rfl, sub_um (s3.trans s4) q0, um_same, by simp; omega, by simp only [List.length_append, List.length_singleton]; omega, fun z hz => ?_⟩
      rcases List.mem_append.mp hz with hz | hz
      · exact e8 z (List.mem_append_left _ hz)
      · exact hkl.2 z hz
  · intro σ M' ⟨u3, lf, m, e1, e2, e4, e5, e6, e8⟩
    subst e1
    (repeat decreasing_trivial_pre_omega)
    exact hq m M' e2 (by rw [List.length_range] at e5; omega)
end
end Pl

set_option maxHeartbeats 2000000
/-! spoilt books; books; worlds; goals -/
namespace Pl
open PySem L2
def BookU (b : Bk) : U := .tup [.int b.n, .dtp (b.heads.map U.str), .tup (b.rows.map encRow)]
/-- the state on the way through a spoilt book -/
def sg (p : Addr × Addr) (b : Bk) (at_ other : Nat) (name : Str) (bd : Bd) (f : Addr) (way : Nat) (v8 v9 : Option U) : SU := [some (.ref p.1), some (encBk b), some (.int at_), some (.int other), some (.str name), some (encB bd), some (.ref f), some (.int way), v8, v9]
def BPb (b : Bk) (j : Nat) (x : Bd) : Prop := BP (b.n + 1) (fun f c => ok1 f ∧ 0 ≤ c ∧ c < b.n) (fun r => r ∈ b.names) ok1 j x
theorem row_get {b : Bk} {i : Nat} (h : i < b.rows.length) : atI (b.rows.map encRow) (i : Int) = some (encRow b.rows[i]) := by
  rw [atI_nat (by rw [List.length_map]; exact h), List.getElem_map]
def StrsB (M : Hm) (p : Addr × Addr) (r : Addr) (l : List Str) : Prop := r ≠ p.1 ∧ l.length ≤ 1000 ∧ (∀ x ∈ l, ok1 x) ∧ M r = some (.lst (l.map U.str))
theorem StrsB.fr {M M' : Hm} {p : Addr × Addr} {r : Addr} {l : List Str} (h : StrsB M p r l) (f : Fr p M M') : StrsB M' p r l := ⟨h.1, h.2.1, h.2.2.1, f.at_ h.1 h.2.2.2⟩
theorem encB_see (f : Str) (bs : List Bd) : encB (.see f bs) = .tup [.str "see", .str f, .tup (bs.map encB)] := by
  rw [← encBs_map]
  rfl
theorem subnon {A B : Hm} {a : Addr} (s : Sub A B) (h : B a = none) : A a = none := by
  cases e : A a with
  | none => rfl
  | some o => rw [s a o e] at h; cases h
section
variable {C : CE} {nx bk ct : SU → Hm → Prop} {rt : QU} {M : Hm} {p : Addr × Addr} {b : Bk} {at_ other way j : Nat} {name : Str} {bd : Bd} {f : Addr} {FS : List Str} {v8 v9 : Option U} {T : S}
theorem sp1 {fw : Nat} (hw : WoC C fw j) (hn : b.n < 100) (d : Dr M p) (hb : BPb b j bd)
    (hq : ∀ bd' M', BPb b j bd' → Dr M' p → Fr p M M' → wS C T ⟨nx, rt, bk, ct⟩ (sg p b at_ other name bd' f way v8 v9) M') :
    wS C (.seq (.ifs (.cmp .eq (.var 7) (.int 1)) (.seq (.asg 5 (.call fw (.cons (.var 5) .nil))) .skip) .skip) T) ⟨nx, rt, bk, ct⟩ (sg p b at_ other name bd f way v8 v9) M := by
  unfold sg at hq ⊢
  (repeat decreasing_trivial_pre_omega)
  refine i_ifd (fun h => ?_) (fun h => ?_)
  · (repeat decreasing_trivial_pre_omega)
    refine hw M bd (b.n + 1) _ _ _ _ (by omega) hb fun b' M' hb' s => ?_
    (repeat decreasing_trivial_pre_omega)
    exact hq b' M' hb' (d.sub s) s.fr
  · (repeat decreasing_trivial_pre_omega)
    exact hq bd M hb d (Fr.refl _ _)
theorem sp2 (ho : other < b.rows.length) (d : Dr M p) (hb : BPb b j bd)
    (hq : ∀ bd' M', BPb b (j + 1) bd' → Dr M' p → Fr p M M' → wS C T ⟨nx, rt, bk, ct⟩ (sg p b at_ other name bd' f way v8 v9) M') :
    wS C (.seq (.ifs (.cmp .eq (.var 7) (.int 2)) (.seq (.asg 5 (.tup (.cons (.str "ask") (.cons (.ix (.ix (.ix (.var 1) (.int 2)) (.var 3)) (.int 0)) (.cons (.var 5) .nil))))) .skip) .skip) T) ⟨nx, rt, bk, ct⟩ (sg p b at_ other name bd f way v8 v9) M := by
  unfold sg at hq ⊢
  (repeat decreasing_trivial_pre_omega)
  refine i_ifd (fun h => ?_) (fun h => ?_)
  · unfold encBk at hq ⊢
    (repeat decreasing_trivial_pre_omega)
    refine x_tup (row_get ho) ?_
    unfold encRow
    (repeat decreasing_trivial_pre_omega)
    exact hq (.ask b.rows[other].1 bd) M (.ask (List.mem_map.mpr ⟨_, List.getElem_mem ho, rfl⟩) hb) d (Fr.refl _ _)
  · (repeat decreasing_trivial_pre_omega)
    exact hq bd M hb.up d (Fr.refl _ _)
theorem sp3 {fn : Nat} (hN : NodesC C fn) (hn : b.n < 100) (d : Dr M p) (hb : BPb b j bd) (hf : StrsB M p f FS) (hF : 0 < FS.length)
    (hq : ∀ bd' M', BPb b (j + 1) bd' → Dr M' p → Fr p M M' → wS C T ⟨nx, rt, bk, ct⟩ (sg p b at_ other name bd' f way v8 v9) M') :
    wS C (.seq (.ifs (.ands (.cons (.ors (.cons (.cmp .eq (.var 7) (.int 3)) (.cons (.cmp .eq (.var 7) (.int 4)) .nil))) (.cons (.cmp .lt (.bin .mul (.call fn (.cons (.var 5) .nil)) (.bin .add (.ix (.var 1) (.int 0)) (.int 1))) (.int 58)) .nil))) (.seq (.asg 5 (.tup (.cons (.str "see") (.cons (.ix (.var 6) (.int 0)) (.cons (.blt .tuple (.cons (.bin .mul (.lst (.cons (.var 5) .nil)) (.bin .add (.ix (.var 1) (.int 0)) (.int 1))) .nil)) .nil))))) .skip) .skip) T) ⟨nx, rt, bk, ct⟩ (sg p b at_ other name bd f way v8 v9) M := by
  unfold sg at hq ⊢
  have rest : ∀ (M1 : Hm), Sub M M1 → wS C (.seq (.asg 5 (.tup (.cons (.str "see") (.cons (.ix (.var 6) (.int 0)) (.cons (.blt .tuple (.cons (.bin .mul (.lst (.cons (.var 5) .nil)) (.bin .add (.ix (.var 1) (.int 0)) (.int 1))) .nil)) .nil))))) .skip) ⟨wS C T ⟨nx, rt, bk, ct⟩, rt, bk, ct⟩ [some (.ref p.1), some (encBk b), some (.int at_), some (.int other), some (.str name), some (encB bd), some (.ref f), some (.int way), v8, v9] M1 := fun M1 s1 => by
    obtain ⟨g1, g2, g3, g4⟩ := hf.fr (s1.fr (p := p))
    have d1 := d.sub s1
    unfold encBk at hq ⊢
    (repeat decreasing_trivial_pre_omega)
    refine x_lst (v := .str FS[0]) g4 (by rw [show (0 : Int) = ((0 : Nat) : Int) from rfl, atI_nat (by rw [List.length_map]; exact hF), List.getElem_map]) ?_
    (repeat decreasing_trivial_pre_omega)
    intro a ha
    (repeat decreasing_trivial_pre_omega)
    have e1 : ((b.n : Int) + 1).toNat = b.n + 1 := by omega
    refine o_rep um_same (by unfold LIM; omega) (by unfold LIM; omega) (by rw [e1]; simp; unfold LIM; omega) fun g hg => ?_
    rw [e1]
    have e2 : ∀ k : Nat, (List.replicate k [encB bd]).flatten = (List.replicate k bd).map encB := fun k => by
      induction k with
      | zero => rfl
      | succ k ih => rw [List.replicate_succ, List.flatten_cons, ih, List.replicate_succ]; rfl
    have g9 : um (um M1 a (.lst [encB bd])) g (.lst ((List.replicate (b.n + 1) bd).map encB)) g = some (.lst ((List.replicate (b.n + 1) bd).map encB)) := um_same
    rw [e2]
    have s3 := sub_um (o := .lst ((List.replicate (b.n + 1) bd).map encB)) (sub_um (o := .lst [encB bd]) s1 (subnon s1 ha)) (subnon s1 (um_none hg))
    (repeat decreasing_trivial_pre_omega)
    have := hq (.see FS[0] (List.replicate (b.n + 1) bd)) _ (.see (g3 _ (List.getElem_mem _)) (by simp) fun x hx => by rw [List.eq_of_mem_replicate hx]; exact hb) (d.sub s3) s3.fr
    rw [encB_see] at this
    exact this
  have nil : ∀ M1, Sub M M1 → wS C T ⟨nx, rt, bk, ct⟩ [some (.ref p.1), some (encBk b), some (.int at_), some (.int other), some (.str name), some (encB bd), some (.ref f), some (.int way), v8, v9] M1 := fun M1 s1 => hq bd M1 hb.up (d.sub s1) s1.fr
  generalize S.seq (.asg 5 (.tup (.cons (.str "see") (.cons (.ix (.var 6) (.int 0)) (.cons (.blt .tuple (.cons (.bin .mul (.lst (.cons (.var 5) .nil)) (.bin .add (.ix (.var 1) (.int 0)) (.int 1))) .nil)) .nil))))) .skip = T2 at rest ⊢
  by_cases h : way = 3 ∨ way = 4
  · rcases h with rfl | rfl
    · (repeat decreasing_trivial_pre_omega)
      refine hN M bd (b.n + 1) _ _ _ _ _ (by omega) hb fun m M1 s1 hm => ?_
      have rest := rest M1 s1
      have nil := nil M1 s1
      unfold encBk at rest nil ⊢
      (repeat decreasing_trivial_pre_omega)
      refine i_ifd (fun _ => ?_) (fun _ => ?_)
      · (repeat decreasing_trivial_pre_omega)
        exact rest
      · (repeat decreasing_trivial_pre_omega)
        exact nil
    · (repeat decreasing_trivial_pre_omega)
      refine hN M bd (b.n + 1) _ _ _ _ _ (by omega) hb fun m M1 s1 hm => ?_
      have rest := rest M1 s1
      have nil := nil M1 s1
      unfold encBk at rest nil ⊢
      (repeat decreasing_trivial_pre_omega)
      refine i_ifd (fun _ => ?_) (fun _ => ?_)
      · (repeat decreasing_trivial_pre_omega)
        exact rest
      · (repeat decreasing_trivial_pre_omega)
        exact nil
  · have h3 : ¬ (way : Int) = 3 := by omega
    have h4 : ¬ (way : Int) = 4 := by omega
    (repeat decreasing_trivial_pre_omega)
    exact nil M (Sub.refl _)
end
end Pl

set_option maxHeartbeats 2000000
/-! spoilt books; books; worlds; goals -/
namespace Pl
open PySem L2
section
variable {C : CE} {nx bk ct : SU → Hm → Prop} {rt : QU} {M : Hm} {p : Addr × Addr} {b : Bk} {at_ other way j : Nat} {name : Str} {bd : Bd} {f : Addr} {FS : List Str} {v8 v9 : Option U} {T : S}
theorem sp4 {fd : Nat} (hd : DrawC C fd) (h0 : 0 < b.n) (hn : b.n < 100) (d : Dr M p) (hb : BPb b j bd) (hf : StrsB M p f FS) (hF : 0 < FS.length)
    (hq : ∀ bd' M', BPb b (j + 1) bd' → Dr M' p → Fr p M M' → wS C T ⟨nx, rt, bk, ct⟩ (sg p b at_ other name bd' f way v8 v9) M') :
    wS C (.seq (.ifs (.cmp .eq (.var 7) (.int 5)) (.seq (.asg 5 (.tup (.cons (.str "put") (.cons (.ix (.var 6) (.int 0)) (.cons (.call fd (.cons (.var 0) (.cons (.ix (.var 1) (.int 0)) .nil))) (.cons (.var 5) .nil)))))) .skip) .skip) T) ⟨nx, rt, bk, ct⟩ (sg p b at_ other name bd f way v8 v9) M := by
  unfold sg at hq ⊢
  obtain ⟨g1, g2, g3, g4⟩ := hf
  (repeat decreasing_trivial_pre_omega)
  refine i_ifd (fun h => ?_) (fun h => ?_)
  · unfold encBk at hq ⊢
    (repeat decreasing_trivial_pre_omega)
    refine x_lst (v := .str FS[0]) g4 (by rw [show (0 : Int) = ((0 : Nat) : Int) from rfl, atI_nat (by rw [List.length_map]; exact hF), List.getElem_map]) ?_
    (repeat decreasing_trivial_pre_omega)
    refine hd.lt M p b.n _ d h0 (by omega) fun r M1 hr d1 f1 => ?_
    (repeat decreasing_trivial_pre_omega)
    exact hq (.put FS[0] r bd) M1 (.put ⟨g3 _ (List.getElem_mem _), by omega, by omega⟩ hb) d1 f1
  · (repeat decreasing_trivial_pre_omega)
    exact hq bd M hb.up d (Fr.refl _ _)
theorem sp5 {fr fp : Nat} (hr : RareC C fr) (hp : PickC C fp) (h0 : 0 < b.n) (hh : ∀ h ∈ b.heads, ok1 h) (hl : b.heads.length ≤ 100) (d : Dr M p) (hb : BPb b j bd)
    (hq : ∀ bd' M', BPb b (j + 1) bd' → Dr M' p → Fr p M M' → wS C T ⟨nx, rt, bk, ct⟩ (sg p b at_ other name bd' f way v8 v9) M') :
    wS C (.seq (.ifs (.ands (.cons (.cmp .eq (.var 7) (.int 0)) (.cons (.ix (.var 1) (.int 1)) (.cons (.call fr (.cons (.var 0) (.cons (.int 3) .nil))) .nil)))) (.seq (.asg 5 (.tup (.cons (.str "put") (.cons (.call fp (.cons (.var 0) (.cons (.blt .list (.cons (.ix (.var 1) (.int 1)) .nil)) .nil))) (.cons (.int 0) (.cons (.var 5) .nil)))))) .skip) .skip) T) ⟨nx, rt, bk, ct⟩ (sg p b at_ other name bd f way v8 v9) M := by
  unfold sg at hq ⊢
  unfold encBk at hq ⊢
  have nil := hq bd M hb.up d (Fr.refl _ _)
  by_cases h : (way : Int) = 0
  · by_cases hne : b.heads = []
    · have hne2 : b.heads.map U.str = [] := by rw [hne]; rfl
      (repeat decreasing_trivial_pre_omega)
      exact nil
    · have hne2 : ¬ b.heads.map U.str = [] := by simpa using hne
      (repeat decreasing_trivial_pre_omega)
      refine hr M p 3 _ d (by decide) (by decide) fun k M1 d1 f1 => ?_
      cases k with
      | false =>
        (repeat decreasing_trivial_pre_omega)
        exact hq bd M1 hb.up d1 f1
      | true =>
        (repeat decreasing_trivial_pre_omega)
        intro a ha
        have d2 := d1.upd (o := .lst (b.heads.map U.str)) ha
        (repeat decreasing_trivial_pre_omega)
        refine hp _ p _ _ _ d2 (.inr ⟨a, rfl, d1.ne ha, um_same⟩) hne2 (by rw [List.length_map]; omega) fun x M3 hx d3 f3 => ?_
        obtain ⟨s, hs, rfl⟩ := List.mem_map.mp hx
        (repeat decreasing_trivial_pre_omega)
        exact hq (.put s 0 bd) M3 (.put ⟨hh s hs, by omega, by omega⟩ hb) d3 ((f1.upd (f1.non (d1.ne ha) ha)).trans f3)
  · (repeat decreasing_trivial_pre_omega)
    exact nil
end
theorem spoilt_ok {C : CE} {fr fp fd fn fw fpf ffi j : Nat} (hr : RareC C fr) (hp : PickC C fp) (hd : DrawC C fd) (hN : NodesC C fn) (hw : WoC C fw j) (hpf : PutFC C fpf) (hfi : NamesLC C ffi 20) {nx bk ct : SU → Hm → Prop} {rt : QU} {M : Hm} {p : Addr × Addr} {b : Bk} (hb : BkG b j) (d : Dr M p)
    (hq : ∀ b' M', BkG b' (j + 4) → b'.n = b.n → b'.heads = b.heads → b'.rows.length = b.rows.length → Dr M' p → Fr p M M' → rt (encBk b') M') :
    wS C (B_law_spoilt_book fr fp fd fn fw fpf ffi) ⟨nx, rt, bk, ct⟩ (startU 10 [.ref p.1, encBk b]) M := by
  have hR0 := hb.r0
  have hR8 := hb.r8
  have hn := hb.n1
  have h0 := hb.ok.n0
  unfold B_law_spoilt_book
  unfold encBk
  (repeat decreasing_trivial_pre_omega)
  rw [List.length_map]
  refine hd.lt M p b.rows.length _ d hR0 (by omega) fun at_ M1 hat d1 f1 => ?_
  (repeat decreasing_trivial_pre_omega)
  rw [List.length_map]
  refine hd.lt M1 p b.rows.length _ d1 hR0 (by omega) fun other M2 hot d2 f2 => ?_
  (repeat decreasing_trivial_pre_omega)
  refine x_tup (row_get hat) ?_
  unfold encRow
  (repeat decreasing_trivial_pre_omega)
  refine x_tup (row_get hot) ?_
  unfold encRow
  (repeat decreasing_trivial_pre_omega)
  have hbo : BPb b j b.rows[other].2 := hb.bp _ (List.getElem_mem hot)
  refine hpf M2 b.rows[other].2 (b.n + 1) j _ _ _ _ (by omega) (fun _ _ h => h.1) hbo fun r l M3 hrN s3 hr3 hl hlk => ?_
  have d3 := d2.sub s3
  (repeat decreasing_trivial_pre_omega)
  refine hfi _ _ fun r4 FL M4 s4 hr4N hr4 hl4 hk4 => ?_
  have d4 := d3.sub s4
  have hr4n : r4 ≠ p.1 := d3.ne hr4N
  (repeat decreasing_trivial_pre_omega)
  refine hp M4 p _ _ _ d4 (.inr ⟨r4, rfl, hr4n, hr4⟩) (by intro z; rw [List.map_eq_nil_iff] at z; rw [z] at hl4; cases hl4) (by rw [List.length_map]; omega) fun x M5 hx d5 f5 => ?_
  obtain ⟨s, hs, rfl⟩ := List.mem_map.mp hx
  have rn : r ≠ p.1 := d2.ne hrN
  have hr5 := f5.at_ rn (s4 _ _ hr3)
  (repeat decreasing_trivial_pre_omega)
  intro t ht
  have d6 := d5.upd (o := .lst [.str s]) ht
  (repeat decreasing_trivial_pre_omega)
  refine o_addL (um_old hr5 ht) um_same (by rw [List.length_map]; simp; unfold LIM; omega) fun f hf => ?_
  have e1 : l.map U.str ++ [.str s] = (l ++ [s]).map U.str := by simp
  rw [e1]
  have d7 := d6.upd (o := .lst ((l ++ [s]).map U.str)) hf
  have F7 : Fr p M (um (um M5 t (.lst [.str s])) f (.lst ((l ++ [s]).map U.str))) := (f1.trans (f2.trans (s3.fr.trans (s4.fr.trans f5)))).trans (sub_um (sub_um (Sub.refl _) ht) (um_none hf)).fr
  have fn1 : f ≠ p.1 := d6.ne hf
  have hfs : StrsB (um (um M5 t (.lst [.str s])) f (.lst ((l ++ [s]).map U.str))) p f (l ++ [s]) := ⟨fn1, by simp; omega, fun x hx => by
    rcases List.mem_append.mp hx with hx | hx
    · exact hlk x hx
    · rw [List.mem_singleton] at hx; subst hx; exact hk4 _ hs, um_same⟩
  have hFS : 0 < (l ++ [s]).length := by simp
  generalize um (um M5 t (.lst [.str s])) f (.lst ((l ++ [s]).map U.str)) = M7 at d7 F7 hfs ⊢
  generalize l ++ [s] = FS at hfs hFS
  -- the rows of the new book
  have tail : ∀ (way : Nat) (bd : Bd) (M' : Hm), BPb b (j + 4) bd → Dr M' p → Fr p M M' → wS C (.seq (.asg 8 (.comp [("k", 9)] (.one 9) (.iRange (.blt .len (.cons (.ix (.var 1) (.int 2)) .nil))) .nil (.ite (.cmp .eq (.var 9) (.var 2)) (.tup (.cons (.var 4) (.cons (.var 5) .nil))) (.ix (.ix (.var 1) (.int 2)) (.var 9))))) (.seq (.ret (.tup (.cons (.ix (.var 1) (.int 0)) (.cons (.ix (.var 1) (.int 1)) (.cons (.blt .tuple (.cons (.var 8) .nil)) .nil))))) .skip)) ⟨nx, rt, bk, ct⟩ (sg p b at_ other b.rows[at_].1 bd f way none none) M' := fun way bd M' hbd d' f' => by
    unfold sg encBk
    (repeat decreasing_trivial_pre_omega)
    refine ⟨by rw [List.length_map]; unfold LIM; omega, by rw [List.length_map]; unfold LIM; omega, ?_⟩
    rw [List.length_map, rngU_nat]
    refine compL_by (enc := fun i : Nat => U.int (i : Nat)) (fun don rest acc M2 => M2 = M' ∧ acc = don.map fun i => encRow (if i = at_ then (b.rows[at_].1, bd) else b.rows.getD i ("", .done))) (List.range b.rows.length) ⟨rfl, rfl⟩ ?_ ?_
    · intro don i rest acc M2 k e ⟨e1, e2⟩ hk
      subst e1 e2
      have hi : i < b.rows.length := List.mem_range.mp (by rw [← e]; simp)
      have hlen : don.length + rest.length + 1 = b.rows.length := by rw [← List.length_range (n := b.rows.length), ← e]; simp; omega
      (repeat decreasing_trivial_pre_omega)
      refine i_ifd (fun h => ?_) (fun h => ?_)
      · have h : i = at_ := by omega
        subst h
        (repeat decreasing_trivial_pre_omega)
        refine hk _ _ trivial (fun _ => by rw [List.length_map]; unfold LIM; omega) ⟨rfl, ?_⟩
        rw [List.map_append, List.map_singleton, if_pos rfl]
        rfl
      · have h : ¬ i = at_ := by omega
        (repeat decreasing_trivial_pre_omega)
        refine x_tup (row_get hi) ?_
        refine hk _ _ trivial (fun _ => by rw [List.length_map]; unfold LIM; omega) ⟨rfl, ?_⟩
        rw [List.map_append, List.map_singleton, if_neg h, List.getD_eq_getElem?_getD, List.getElem?_eq_getElem hi]
        rfl
    · intro acc M2 ⟨e1, e2⟩
      subst e1 e2
      intro y hy
      (repeat decreasing_trivial_pre_omega)
      have e3 : ((List.range b.rows.length).map fun i => encRow (if i = at_ then (b.rows[at_].1, bd) else b.rows.getD i ("", .done))) = ((List.range b.rows.length).map fun i => (if i = at_ then (b.rows[at_].1, bd) else b.rows.getD i (("" : Str), Bd.done))).map encRow := by rw [List.map_map]; rfl
      have hnames : ((List.range b.rows.length).map fun i => (if i = at_ then (b.rows[at_].1, bd) else b.rows.getD i (("" : Str), Bd.done))).map (·.1) = b.names := by
        refine List.ext_getElem (by simp [Bk.names]) fun i h1 h2 => ?_
        simp only [List.getElem_map, List.getElem_range, Bk.names]
        have hi : i < b.rows.length := by simpa [Bk.names] using h2
        by_cases h : i = at_
        · rw [if_pos h]; subst h; rfl
        · rw [if_neg h, List.getD_eq_getElem?_getD, List.getElem?_eq_getElem hi]; rfl
      have hrows : ∀ r ∈ ((List.range b.rows.length).map fun i => (if i = at_ then (b.rows[at_].1, bd) else b.rows.getD i (("" : Str), Bd.done))), ok1 r.1 ∧ BPb b (j + 4) r.2 := fun r hr => by
        obtain ⟨i, hi, rfl⟩ := List.mem_map.mp hr
        have hi := List.mem_range.mp hi
        by_cases h : i = at_
        · rw [if_pos h]; exact ⟨(hb.ok.rows _ (List.getElem_mem hat)).1, hbd⟩
        · rw [if_neg h, List.getD_eq_getElem?_getD, List.getElem?_eq_getElem hi]
          exact ⟨(hb.ok.rows _ (List.getElem_mem hi)).1, (BP.up (BP.up (BP.up (BP.up (hb.bp _ (List.getElem_mem hi))))))⟩
      have hL : ((List.range b.rows.length).map fun i => (if i = at_ then (b.rows[at_].1, bd) else b.rows.getD i (("" : Str), Bd.done))).length = b.rows.length := by simp
      have hbk := BkG.mk' (n := b.n) (heads := b.heads) (rows := (List.range b.rows.length).map fun i => (if i = at_ then (b.rows[at_].1, bd) else b.rows.getD i (("" : Str), Bd.done))) (j := j + 4) h0 hn hb.ok.heads hb.ok.hl (by omega) (by omega) fun r hr => ⟨(hrows r hr).1, by rw [hnames]; exact (hrows r hr).2⟩
      rw [e3]
      exact hq _ _ hbk rfl rfl hL (d'.upd hy) (f'.upd (f'.non (d'.ne hy) hy))
  generalize S.seq (.asg 8 (.comp [("k", 9)] (.one 9) (.iRange (.blt .len (.cons (.ix (.var 1) (.int 2)) .nil))) .nil (.ite (.cmp .eq (.var 9) (.var 2)) (.tup (.cons (.var 4) (.cons (.var 5) .nil))) (.ix (.ix (.var 1) (.int 2)) (.var 9))))) (.seq (.ret (.tup (.cons (.ix (.var 1) (.int 0)) (.cons (.ix (.var 1) (.int 1)) (.cons (.blt .tuple (.cons (.var 8) .nil)) .nil))))) .skip) = T at tail ⊢
  refine z_seq (z_asg ?_)
  (repeat decreasing_trivial_pre_omega)
  refine hd.lt M7 p 6 _ d7 (by decide) (by decide) fun way M8 hway d8 f8 => ?_
  change wS C _ _ (sg p b at_ other b.rows[at_].1 b.rows[at_].2 f way none none) M8
  have hba : BPb b j b.rows[at_].2 := hb.bp _ (List.getElem_mem hat)
  have hfs8 := hfs.fr f8
  have F8 := F7.trans f8
  refine sp1 (b := b) (at_ := at_) (other := other) (name := b.rows[at_].1) (f := f) (v8 := none) (v9 := none) hw hn d8 hba fun b1 M9 hb1 d9 f9 => ?_
  refine sp2 hot d9 hb1 fun b2 M10 hb2 d10 f10 => ?_
  have hfs10 := (hfs8.fr f9).fr f10
  refine sp3 hN hn d10 hb2 hfs10 hFS fun b3 M11 hb3 d11 f11 => ?_
  refine sp4 hd h0 hn d11 hb3 (hfs10.fr f11) hFS fun b4 M12 hb4 d12 f12 => ?_
  refine sp5 hr hp h0 hb.ok.heads hb.ok.hl d12 hb4 fun b5 M13 hb5 d13 f13 => ?_
  exact tail way b5 M13 hb5 d13 ((((F8.trans f9).trans f10).trans f11).trans (f12.trans f13))
def SpoilC (C : CE) (f j : Nat) : Prop := ∀ (M : Hm) (p : Addr × Addr) (b : Bk) (Q : QU), BkG b j → Dr M p → (∀ b' M', BkG b' (j + 4) → b'.n = b.n → b'.heads = b.heads → b'.rows.length = b.rows.length → Dr M' p → Fr p M M' → Q (encBk b') M') → C f [.ref p.1, encBk b] M Q
end Pl

set_option maxHeartbeats 2000000
/-! books; worlds; goals -/
namespace Pl
open PySem L2
theorem BP.le {n : Nat} {pp : Str → Int → Prop} {pa ps : Str → Prop} {j i : Nat} (h : j ≤ i) {b : Bd} (hb : BP n pp pa ps j b) : BP n pp pa ps i b := by
  induction h with
  | refl => exact hb
  | step _ ih => exact ih.up
theorem BkG.le {b : Bk} {j i : Nat} (h : j ≤ i) (hb : BkG b j) : BkG b i := ⟨hb.ok, hb.n1, hb.r0, hb.r8, fun r hr => (hb.bp r hr).le h⟩
def TidyC (C : CE) (f : Nat) : Prop := ∀ (M : Hm) (p : Addr × Addr) (n s R : Nat) (nodes : Int) (Q : QU), 0 < n → n < 100 → 0 < R → R ≤ 8 → Dr M p →
  (∀ b M', BkG b 9 → b.n = n → b.heads.length ≤ s → b.rows.length = R → Dr M' p → Fr p M M' → Q (encBk b) M') → C f [.ref p.1, .int n, .int s, .int R, .int nodes] M Q
theorem book_ok {C : CE} {fs ft fw fd : Nat} (hs : SpoilC C fs 9) (ht : TidyC C ft) (hw : TidyC C fw) (hd : DrawC C fd) {nx bk ct : SU → Hm → Prop} {rt : QU} {M : Hm} {p : Addr × Addr} {K S R : Nat} {nodes : Int} (k0 : 0 < K) (k1 : K < 99) (hS : S < 100) (hR0 : 0 < R) (hR8 : R ≤ 8) (d : Dr M p)
    (hq : ∀ b M', BkG b 13 → b.n ≤ K → b.heads.length ≤ S → b.rows.length ≤ R → Dr M' p → Fr p M M' → rt (encBk b) M') :
    wS C (B_law_book fs ft fw fd) ⟨nx, rt, bk, ct⟩ (startU 10 [.ref p.1, .int K, .int S, .int R, .int nodes]) M := by
  unfold B_law_book
  (repeat decreasing_trivial_pre_omega)
  refine hd.lt M p 5 _ d (by decide) (by decide) fun way M1 hway d1 f1 => ?_
  (repeat decreasing_trivial_pre_omega)
  refine hd.lt M1 p K _ d1 (by omega) (by omega) fun many M2 hmany d2 f2 => ?_
  (repeat decreasing_trivial_pre_omega)
  rw [show (S : Int) + 1 = ((S + 1 : Nat) : Int) by omega]
  refine hd.lt M2 p (S + 1) _ d2 (by omega) (by omega) fun s1 M3 hs1 d3 f3 => ?_
  (repeat decreasing_trivial_pre_omega)
  rw [show (S : Int) + 1 = ((S + 1 : Nat) : Int) by omega]
  refine hd.lt M3 p (S + 1) _ d3 (by omega) (by omega) fun s2 M4 hs2 d4 f4 => ?_
  (repeat decreasing_trivial_pre_omega)
  refine hd.lt M4 p R _ d4 (by omega) (by omega) fun r1 M5 hr1 d5 f5 => ?_
  (repeat decreasing_trivial_pre_omega)
  refine hd.lt M5 p R _ d5 (by omega) (by omega) fun r2 M6 hr2 d6 f6 => ?_
  have F6 : Fr p M M6 := ((((f1.trans f2).trans f3).trans f4).trans f5).trans f6
  obtain ⟨n, en, n0, n1⟩ : ∃ n : Nat, (1 : Int) + (many : Nat) = (n : Nat) ∧ 0 < n ∧ n ≤ K := ⟨1 + many, by omega, by omega, by omega⟩
  obtain ⟨sn, es, es1⟩ : ∃ sn : Nat, (if (s2 : Int) > (s1 : Int) then (s2 : Int) else (s1 : Int)) = (sn : Nat) ∧ sn ≤ S := ⟨if s2 > s1 then s2 else s1, by split <;> split <;> omega, by split <;> omega⟩
  obtain ⟨rn, er, er0, er1⟩ : ∃ rn : Nat, (1 : Int) + (if (r2 : Int) > (r1 : Int) then (r2 : Int) else (r1 : Int)) = (rn : Nat) ∧ 0 < rn ∧ rn ≤ R := ⟨1 + if r2 > r1 then r2 else r1, by split <;> split <;> omega, by omega, by split <;> omega⟩
  (repeat decreasing_trivial_pre_omega)
  rw [en, es, er]
  (repeat decreasing_trivial_pre_omega)
  refine i_ifd (fun h => ?_) (fun h => ?_)
  · (repeat decreasing_trivial_pre_omega)
    refine hw M6 p n sn rn nodes _ n0 (by omega) er0 (by omega) d6 fun b M7 hb g1 g2 g3 d7 f7 => ?_
    exact hq b M7 (hb.le (by omega)) (by omega) (by omega) (by omega) d7 (F6.trans f7)
  · (repeat decreasing_trivial_pre_omega)
    refine ht M6 p n sn rn nodes _ n0 (by omega) er0 (by omega) d6 fun b M7 hb g1 g2 g3 d7 f7 => ?_
    (repeat decreasing_trivial_pre_omega)
    have spo : C fs [.ref p.1, encBk b] M7 rt := hs M7 p b _ hb d7 fun b' M8 hb' g4 g5 g6 d8 f8 => hq b' M8 hb' (by omega) (by rw [g5]; omega) (by omega) d8 ((F6.trans f7).trans f8)
    by_cases h2 : way = 1 ∨ way = 2
    · rcases h2 with rfl | rfl
      · (repeat decreasing_trivial_pre_omega)
        exact spo
      · (repeat decreasing_trivial_pre_omega)
        exact spo
    · have h3 : ¬ (way : Int) = 1 := by omega
      have h4 : ¬ (way : Int) = 2 := by omega
      (repeat decreasing_trivial_pre_omega)
      exact hq b M7 (hb.le (by omega)) (by omega) (by omega) (by omega) d7 (F6.trans f7)
def BookC (C : CE) (f : Nat) : Prop := ∀ (M : Hm) (p : Addr × Addr) (K S R : Nat) (nodes : Int) (Q : QU), 0 < K → K < 99 → S < 100 → 0 < R → R ≤ 8 → Dr M p →
  (∀ b M', BkG b 13 → b.n ≤ K → b.heads.length ≤ S → b.rows.length ≤ R → Dr M' p → Fr p M M' → Q (encBk b) M') → C f [.ref p.1, .int K, .int S, .int R, .int nodes] M Q
theorem world_ok {C : CE} {fd : Nat} (hd : DrawC C fd) {nx bk ct : SU → Hm → Prop} {rt : QU} {M : Hm} {p : Addr × Addr} {b : Bk} {j : Nat} (hb : BkG b j) (d : Dr M p)
    (hq : ∀ wd M', WdOk b wd → Dr M' p → Fr p M M' → rt (.tup (wd.map U.int)) M') : wS C (B_law_world fd) ⟨nx, rt, bk, ct⟩ (startU 3 [.ref p.1, encBk b]) M := by
  have hn := hb.n1
  have hhl := hb.ok.hl
  unfold B_law_world encBk
  (repeat decreasing_trivial_pre_omega)
  refine compL_by (enc := U.str) (fun don rest acc M2 => ∃ wd : List Int, acc = wd.map U.int ∧ wd.length = don.length ∧ (∀ c ∈ wd, -1 ≤ c ∧ c < b.n) ∧ Dr M2 p ∧ Fr p M M2) b.heads ⟨[], rfl, rfl, by simp, d, Fr.refl _ _⟩ ?_ ?_
  · intro don x rest acc M2 k e ⟨wd, e1, e2, e3, e4, e5⟩ hk
    subst e1
    have hlen : don.length + rest.length + 1 = b.heads.length := by rw [← e]; simp; omega
    (repeat decreasing_trivial_pre_omega)
    rw [show (b.n : Int) + 1 = ((b.n + 1 : Nat) : Int) by omega]
    refine hd.lt M2 p (b.n + 1) _ e4 (by omega) (by omega) fun c M3 hc d3 f3 => ?_
    (repeat decreasing_trivial_pre_omega)
    refine hk _ _ trivial (fun _ => by rw [List.length_map]; unfold LIM; omega) ⟨wd ++ [(c : Int) - 1], by simp, by simp [e2], fun y hy => ?_, d3, e5.trans f3⟩
    rcases List.mem_append.mp hy with hy | hy
    · exact e3 y hy
    · rw [List.mem_singleton] at hy; subst hy; omega
  · intro acc M2 ⟨wd, e1, e2, e3, e4, e5⟩
    subst e1
    intro y hy
    (repeat decreasing_trivial_pre_omega)
    exact hq wd _ ⟨e2, fun c hc => .inr (e3 c hc)⟩ (e4.upd hy) (e5.upd (e5.non (e4.ne hy) hy))
def WorldC (C : CE) (f : Nat) : Prop := ∀ (M : Hm) (p : Addr × Addr) (b : Bk) (j : Nat) (Q : QU), BkG b j → Dr M p → (∀ wd M', WdOk b wd → Dr M' p → Fr p M M' → Q (.tup (wd.map U.int)) M') → C f [.ref p.1, encBk b] M Q
theorem goals_ok {C : CE} {fr fs fd : Nat} (hr : RareC C fr) (hs : ShufU C fs) (hd : DrawC C fd) {nx bk ct : SU → Hm → Prop} {rt : QU} {M : Hm} {p : Addr × Addr} {b : Bk} {j : Nat} (hb : BkG b j) (d : Dr M p)
    (hq : ∀ gs M', (∀ g ∈ gs, g ∈ b.names) → gs ≠ [] → gs.length ≤ 8 → Dr M' p → Fr p M M' → rt (.tup (gs.map U.str)) M') : wS C (B_law_goals fr fs fd) ⟨nx, rt, bk, ct⟩ (startU 6 [.ref p.1, encBk b]) M := by
  have hR0 := hb.r0
  have hR8 := hb.r8
  have hnl : b.names.length = b.rows.length := by unfold Bk.names; rw [List.length_map]
  unfold B_law_goals encBk
  (repeat decreasing_trivial_pre_omega)
  refine compL_by (enc := encRow) (fun don rest acc M2 => M2 = M ∧ acc = don.map fun r => .str r.1) b.rows ⟨rfl, rfl⟩ ?_ ?_
  · intro don x rest acc M2 k e ⟨e1, e2⟩ hk
    subst e1 e2
    have hlen : don.length + rest.length + 1 = b.rows.length := by rw [← e]; simp; omega
    unfold encRow
    (repeat decreasing_trivial_pre_omega)
    exact hk _ _ trivial (fun _ => by rw [List.length_map]; unfold LIM; omega) ⟨rfl, by simp⟩
  intro acc M2 ⟨e1, e2⟩
  subst e1 e2
  intro r hrN
  have e3 : (b.rows.map fun r => U.str r.1) = b.names.map U.str := by unfold Bk.names; rw [List.map_map]; rfl
  rw [e3]
  have d1 := d.upd (o := .lst (b.names.map U.str)) hrN
  have r1 := d.ne hrN
  have F1 : Fr p M2 (um M2 r (.lst (b.names.map U.str))) := (Fr.refl _ _).upd hrN
  have hrr : um M2 r (.lst (b.names.map U.str)) r = some (.lst (b.names.map U.str)) := um_same
  generalize um M2 r (.lst (b.names.map U.str)) = M3 at *
  (repeat decreasing_trivial_pre_omega)
  refine hd.lt M3 p 3 _ d1 (by decide) (by decide) fun m M4 hm d4 f4 => ?_
  have hr4 := f4.at_ r1 hrr
  (repeat decreasing_trivial_pre_omega)
  rw [List.length_map]
  obtain ⟨mn, em, em0, em1⟩ : ∃ mn : Nat, (1 : Int) + (if ((b.names.length : Nat) : Int) - 1 < (m : Int) then ((b.names.length : Nat) : Int) - 1 else (m : Int)) = (mn : Nat) ∧ 0 < mn ∧ mn ≤ 3 := ⟨1 + if b.names.length - 1 < m then b.names.length - 1 else m, by split <;> split <;> omega, by omega, by split <;> omega⟩
  rw [em]
  (repeat decreasing_trivial_pre_omega)
  refine hs M4 p r _ _ d4 hr4 (by rw [List.length_map]; omega) fun q ws M5 pe d5 f5 q1 q2 _ hq5 => ?_
  obtain ⟨L, rfl, pL⟩ := perm_map U.str pe rfl
  (repeat decreasing_trivial_pre_omega)
  rw [cutU_take, ← List.map_take]
  intro g hg
  have g1 := d5.ne hg
  have d6 := d5.upd (o := .lst ((L.take mn).map U.str)) hg
  have F6 : Fr p M2 (um M5 g (.lst ((L.take mn).map U.str))) := by
    have F5 := F1.trans (f4.trans f5)
    exact F5.upd (F5.non g1 hg)
  have g2 := d5.ne2 hg
  have hgl : um M5 g (.lst ((L.take mn).map U.str)) g = some (.lst ((L.take mn).map U.str)) := um_same
  have hMg : M2 g = none := (F1.trans (f4.trans f5)).non g1 hg
  have hG0 : 0 < (L.take mn).length := by rw [List.length_take, pL.length_eq]; omega
  have hG8 : (L.take mn).length ≤ 3 := by rw [List.length_take]; omega
  have hGn : ∀ x ∈ L.take mn, x ∈ b.names := fun x hx => pL.mem_iff.mp (List.mem_of_mem_take hx)
  generalize L.take mn = G at *
  generalize um M5 g (.lst (G.map U.str)) = M6 at *
  (repeat decreasing_trivial_pre_omega)
  refine hr M6 p 5 _ d6 (by decide) (by decide) fun k M7 d7 f7 => ?_
  have hg7 := f7.at_ g1 hgl
  cases k with
  | false =>
    (repeat decreasing_trivial_pre_omega)
    exact hq G M7 hGn (by intro z; rw [z] at hG0; cases hG0) (by omega) d7 (F6.trans f7)
  | true =>
    (repeat decreasing_trivial_pre_omega)
    rw [List.length_map]
    refine i_ifdt (by omega) ?_
    (repeat decreasing_trivial_pre_omega)
    refine x_lst (v := .str G[0]) hg7 (by rw [show (0 : Int) = ((0 : Nat) : Int) from rfl, atI_nat (by rw [List.length_map]; exact hG0), List.getElem_map]) ?_
    (repeat decreasing_trivial_pre_omega)
    refine m_app hg7 (by rw [List.length_map]; unfold LIM; omega) ?_
    have e9 : G.map U.str ++ [.str G[0]] = (G ++ [G[0]]).map U.str := by simp
    rw [e9]
    (repeat decreasing_trivial_pre_omega)
    refine hq (G ++ [G[0]]) _ (fun x hx => ?_) (by simp) (by simp; omega) (d7.upd2 g1 g2) ((F6.trans f7).upd hMg)
    rcases List.mem_append.mp hx with hx | hx
    · exact hGn x hx
    · rw [List.mem_singleton] at hx; subst hx; exact hGn _ (List.getElem_mem _)
def GoalC (C : CE) (f : Nat) : Prop := ∀ (M : Hm) (p : Addr × Addr) (b : Bk) (j : Nat) (Q : QU), BkG b j → Dr M p → (∀ gs M', (∀ g ∈ gs, g ∈ b.names) → gs ≠ [] → gs.length ≤ 8 → Dr M' p → Fr p M M' → Q (.tup (gs.map U.str)) M') → C f [.ref p.1, encBk b] M Q
/-! the numbers of a book -/
theorem BkG.mb {b : Bk} (h : BkG b 13) : mb b ≤ 600 := by
  have h1 : b.names.length ≤ 8 := by unfold Bk.names; rw [List.length_map]; exact h.r8
  have h2 : b.deep ≤ 13 := by
    unfold Bk.deep
    have : ∀ l : List Bd, (∀ x ∈ l, ht x ≤ 13) → htL l ≤ 13 := fun l => by
      induction l with
      | nil => intro _; exact Nat.zero_le _
      | cons x l ih =>
        intro h
        unfold htL
        have h1 := h x List.mem_cons_self
        have h2 := ih fun b hb => h b (List.mem_cons_of_mem _ hb)
        omega
    refine this _ fun x hx => ?_
    obtain ⟨r, hr, rfl⟩ := List.mem_map.mp hx
    exact BP_ht (h.bp r hr)
  have h3 : b.names.length * (b.deep + 2) ≤ 8 * 15 := Nat.mul_le_mul h1 (by omega)
  unfold Pl.mb
  omega
/-! what is told may be compared -/
theorem okU_strs {l : List Str} (h : ∀ s ∈ l, okS s = true) {k : Nat} (hk : 0 < k) : (l.map U.str).all (U.ok k) = true := by
  rw [List.all_map]
  refine List.all_eq_true.mpr fun s hs => ?_
  obtain ⟨k, rfl⟩ : ∃ i, k = i + 1 := ⟨k - 1, by omega⟩
  exact h s hs
theorem evs_ok {es : List Ev} (h : ∀ e ∈ es, e.ok) {k : Nat} (hk : 2 < k) : U.ok k (trU es) = true := by
  obtain ⟨k, rfl⟩ : ∃ i, k = i + 3 := ⟨k - 3, by omega⟩
  show ((es.map encE).all (U.ok (k + 2))) = true
  rw [List.all_map]
  refine List.all_eq_true.mpr fun e he => ?_
  have := h e he
  cases e with
  | ask r =>
    have h0 : okS ("ask" : Str) = true := by decide +kernel
    simp only [Function.comp, encE, U.ok, List.all_cons, List.all_nil, Bool.and_true, h0, Bool.true_and]
    exact this
  | put f c =>
    have h0 : okS ("put" : Str) = true := by decide +kernel
    simp only [Function.comp, encE, U.ok, List.all_cons, List.all_nil, Bool.and_true, h0, Bool.true_and]
    exact this
  | see f c =>
    have h0 : okS ("see" : Str) = true := by decide +kernel
    simp only [Function.comp, encE, U.ok, List.all_cons, List.all_nil, Bool.and_true, h0, Bool.true_and]
    exact this
end Pl

set_option maxHeartbeats 2000000
/-! k05: chains of events -/
namespace Pl
open PySem L2
/-- _law_chain: events, kinds, body, event -/
def B_law_chain : S := (.seq (.asg 2 (.tup (.cons (.str "done") .nil))) (.seq (.for_ (.one 3) (.iRev (.var 0)) (.seq (.ifs (.cmp .eq (.ix (.var 3) (.int 0)) (.str "see")) (.seq (.asg 2 (.tup (.cons (.str "see") (.cons (.ix (.var 3) (.int 1)) (.cons (.blt .tuple (.cons (.bin .mul (.lst (.cons (.var 2) .nil)) (.bin .add (.var 1) (.int 1))) .nil)) .nil))))) .skip) (.seq (.ifs (.cmp .eq (.ix (.var 3) (.int 0)) (.str "ask")) (.seq (.asg 2 (.tup (.cons (.str "ask") (.cons (.ix (.var 3) (.int 1)) (.cons (.var 2) .nil))))) .skip) (.seq (.asg 2 (.tup (.cons (.str "put") (.cons (.ix (.var 3) (.int 1)) (.cons (.ix (.var 3) (.int 2)) (.cons (.var 2) .nil)))))) .skip)) .skip)) .skip)) (.seq (.ret (.var 2)) .skip)))
/-- _law_some: d, row, most -/
def B_law_some (law_shuffled : Nat) (law_draw : Nat) : S := (.seq (.ret (.slice (.call law_shuffled (.cons (.var 0) (.cons (.var 1) .nil))) .nil (.call law_draw (.cons (.var 0) (.cons (.bin .add (.var 2) (.int 1)) .nil))))) .skip)
/-- _law_events: d, kinds, asked, seen, put, row, file, name -/
def B_law_events (law_draw : Nat) (law_shuffled : Nat) (law_some : Nat) : S := (.seq (.asg 5 (.comp [("file", 6)] (.one 6) (.iSeq (.call law_some (.cons (.var 0) (.cons (.var 3) (.cons (.int 2) .nil))))) .nil (.tup (.cons (.str "see") (.cons (.var 6) .nil))))) (.seq (.asg 5 (.call law_shuffled (.cons (.var 0) (.cons (.bin .add (.var 5) (.comp [("name", 7)] (.one 7) (.iSeq (.var 2)) .nil (.tup (.cons (.str "ask") (.cons (.var 7) .nil))))) .nil)))) (.seq (.ret (.bin .add (.var 5) (.comp [("file", 6)] (.one 6) (.iSeq (.var 4)) .nil (.tup (.cons (.str "put") (.cons (.var 6) (.cons (.call law_draw (.cons (.var 0) (.cons (.var 1) .nil))) .nil))))))) .skip)))

inductive Ce where | see (f : Str) | ask (r : Str) | put (f : Str) (c : Int)
def encC : Ce → U
  | .see f => .tup [.str "see", .str f]
  | .ask r => .tup [.str "ask", .str r]
  | .put f c => .tup [.str "put", .str f, .int c]
def linkM (n : Nat) (e : Ce) (b : Bd) : Bd := match e with
  | .see f => .see f (List.replicate n b)
  | .ask r => .ask r b
  | .put f c => .put f c b
def chainM (n : Nat) (es : List Ce) : Bd := es.foldr (linkM n) .done
def CeOk (pp : Str → Int → Prop) (pa ps : Str → Prop) : Ce → Prop
  | .see f => ps f
  | .ask r => pa r
  | .put f c => pp f c
theorem chain_BP {n : Nat} {pp : Str → Int → Prop} {pa ps : Str → Prop} : ∀ {es : List Ce}, (∀ e ∈ es, CeOk pp pa ps e) → BP n pp pa ps es.length (chainM n es)
  | [], _ => .done
  | e :: es, h => by
    have ih := chain_BP (n := n) (es := es) fun x hx => h x (List.mem_cons_of_mem _ hx)
    have he := h e List.mem_cons_self
    show BP n pp pa ps (es.length + 1) (linkM n e (chainM n es))
    cases e with
    | see f => exact .see he (by simp) fun b hb => by rw [List.eq_of_mem_replicate hb]; exact ih
    | ask r => exact .ask he ih
    | put f c => exact .put he ih
theorem chain_ok {C : CE} {nx bk ct : SU → Hm → Prop} {rt : QU} {M : Hm} {r : Addr} {es : List Ce} {n : Nat} (hn : n < 100) (hr : M r = some (.lst (es.map encC))) (hq : ∀ M', Sub M M' → rt (encB (chainM (n + 1) es)) M') : wS C B_law_chain ⟨nx, rt, bk, ct⟩ (startU 4 [.ref r, .int n]) M := by
  unfold B_law_chain
  (repeat decreasing_trivial_pre_omega)
  rw [← List.map_reverse]
  refine forL_by (enc := encC) (fun don rest σ M' => Sub M M' ∧ ∃ u3, σ = [some (.ref r), some (.int n), some (encB (don.foldl (fun b e => linkM (n + 1) e b) .done)), u3]) es.reverse ⟨Sub.refl _, _, rfl⟩ ?_ ?_
  · intro don x rest σ M' k e ⟨s, u3, e1⟩ hk
    subst e1
    have hr' := s _ _ hr
    have app : ∀ (b : Bd), don.foldl (fun b e => linkM (n + 1) e b) .done = b → (don ++ [x]).foldl (fun b e => linkM (n + 1) e b) .done = linkM (n + 1) x b := fun b h => by rw [List.foldl_append, h]; rfl
    generalize hb : don.foldl (fun b e => linkM (n + 1) e b) .done = b at app ⊢
    have app := app b rfl
    cases x with
    | see f =>
      unfold encC
      (repeat decreasing_trivial_pre_omega)
      intro a ha
      (repeat decreasing_trivial_pre_omega)
      have e1 : ((n : Int) + 1).toNat = n + 1 := by omega
      refine o_rep um_same (by unfold LIM; omega) (by unfold LIM; omega) (by rw [e1]; simp; unfold LIM; omega) fun g hg => ?_
      rw [e1]
      have e2 : ∀ k : Nat, (List.replicate k [encB b]).flatten = (List.replicate k b).map encB := fun k => by
        induction k with
        | zero => rfl
        | succ k ih => rw [List.replicate_succ, List.flatten_cons, ih, List.replicate_succ]; rfl
      have g9 : um (um M' a (.lst [encB b])) g (.lst ((List.replicate (n + 1) b).map encB)) g = some (.lst ((List.replicate (n + 1) b).map encB)) := um_same
      rw [e2]
      (repeat decreasing_trivial_pre_omega)
      refine hk _ _ (um_old (um_old hr' ha) hg) ⟨sub_um (sub_um s (subnon s ha)) (subnon s (um_none hg)), some (encC (.see f)), ?_⟩
      rw [app, show linkM (n + 1) (.see f) b = .see f (List.replicate (n + 1) b) from rfl, encB_see]
      rfl
    | ask f =>
      unfold encC
      (repeat decreasing_trivial_pre_omega)
      refine hk _ _ hr' ⟨s, some (encC (.ask f)), ?_⟩
      rw [app]
      rfl
    | put f c =>
      unfold encC
      (repeat decreasing_trivial_pre_omega)
      refine hk _ _ hr' ⟨s, some (encC (.put f c)), ?_⟩
      rw [app]
      rfl
  · intro σ M' ⟨s, u3, e1⟩
    subst e1
    have hch : es.reverse.foldl (fun b e => linkM (n + 1) e b) .done = chainM (n + 1) es := by rw [List.foldl_reverse]; rfl
    rw [hch]
    (repeat decreasing_trivial_pre_omega)
    exact hq _ s
def ChainC (C : CE) (f : Nat) : Prop := ∀ (M : Hm) (r : Addr) (es : List Ce) (n : Nat) (Q : QU), n < 100 → M r = some (.lst (es.map encC)) → (∀ M', Sub M M' → Q (encB (chainM (n + 1) es)) M') → C f [.ref r, .int n] M Q
theorem some_ok {C : CE} {fs fd : Nat} (hs : ShufU C fs) (hd : DrawC C fd) {nx bk ct : SU → Hm → Prop} {rt : QU} {M : Hm} {p : Addr × Addr} {r : Addr} {us : List U} {most : Nat} (d : Dr M p) (hr : M r = some (.lst us)) (hl : us.length < 100000) (hm : most < 1000)
    (hq : ∀ q ws M', (∀ x ∈ ws, x ∈ us) → ws.length ≤ most → Dr M' p → Fr p M M' → q ≠ p.1 → M q = none → M' q = some (.lst ws) → rt (.ref q) M') : wS C (B_law_some fs fd) ⟨nx, rt, bk, ct⟩ (startU 3 [.ref p.1, .ref r, .int most]) M := by
  unfold B_law_some
  (repeat decreasing_trivial_pre_omega)
  refine hs M p r us _ d hr hl fun q ws M1 pe d1 f1 q1 q2 hqN hq1 => ?_
  (repeat decreasing_trivial_pre_omega)
  rw [show (most : Int) + 1 = ((most + 1 : Nat) : Int) by omega]
  refine hd.lt M1 p (most + 1) _ d1 (by omega) (by omega) fun k M2 hk d2 f2 => ?_
  have hq2 := f2.at_ q1 hq1
  (repeat decreasing_trivial_pre_omega)
  rw [cutU_take]
  intro y hy
  have F := f1.trans f2
  have y1 := d2.ne hy
  (repeat decreasing_trivial_pre_omega)
  exact hq y (ws.take k) _ (fun x hx => pe.mem_iff.mp (List.mem_of_mem_take hx)) (by rw [List.length_take]; omega) (d2.upd hy) (F.upd (F.non y1 hy)) y1 (F.non y1 hy) um_same
def SomeC (C : CE) (f : Nat) : Prop := ∀ (M : Hm) (p : Addr × Addr) (r : Addr) (us : List U) (most : Nat) (Q : QU), Dr M p → M r = some (.lst us) → us.length < 100000 → most < 1000 →
  (∀ q ws M', (∀ x ∈ ws, x ∈ us) → ws.length ≤ most → Dr M' p → Fr p M M' → q ≠ p.1 → M q = none → M' q = some (.lst ws) → Q (.ref q) M') → C f [.ref p.1, .ref r, .int most] M Q
theorem sub_strs {us : List Str} : ∀ {ws : List U}, (∀ x ∈ ws, x ∈ us.map U.str) → ∃ l : List Str, ws = l.map U.str ∧ ∀ x ∈ l, x ∈ us
  | [], _ => ⟨[], rfl, by simp⟩
  | w :: ws, h => by
    obtain ⟨l, e, hl⟩ := sub_strs (ws := ws) fun x hx => h x (List.mem_cons_of_mem _ hx)
    obtain ⟨s, hs, rfl⟩ := List.mem_map.mp (h w List.mem_cons_self)
    exact ⟨s :: l, by rw [e]; rfl, fun x hx => by
      rcases List.mem_cons.mp hx with rfl | hx
      · exact hs
      · exact hl x hx⟩
theorem events_ok {C : CE} {fd fs fm : Nat} (hd : DrawC C fd) (hs : ShufU C fs) (hm : SomeC C fm) {nx bk ct : SU → Hm → Prop} {rt : QU} {M : Hm} {p : Addr × Addr} {ra rs rp : Addr} {A S P : List Str} {n : Nat} (n0 : 0 < n) (n1 : n < 100) (d : Dr M p)
    (ha1 : ra ≠ p.1) (ha : M ra = some (.lst (A.map U.str))) (hs1 : rs ≠ p.1) (hss : M rs = some (.lst (S.map U.str))) (hp1 : rp ≠ p.1) (hp : M rp = some (.lst (P.map U.str))) (lA : A.length ≤ 10) (lS : S.length ≤ 10) (lP : P.length ≤ 10)
    (hq : ∀ (q : Addr) (es : List Ce) (M' : Hm), (∀ e ∈ es, CeOk (fun f c => f ∈ P ∧ 0 ≤ c ∧ c < n) (· ∈ A) (· ∈ S) e) → es.length ≤ 2 + A.length + P.length → Dr M' p → Fr p M M' → q ≠ p.1 → M q = none → M' q = some (.lst (es.map encC)) → rt (.ref q) M') :
    wS C (B_law_events fd fs fm) ⟨nx, rt, bk, ct⟩ (startU 8 [.ref p.1, .int n, .ref ra, .ref rs, .ref rp]) M := by
  unfold B_law_events
  (repeat decreasing_trivial_pre_omega)
  refine hm M p rs _ 2 _ d hss (by rw [List.length_map]; omega) (by decide) fun q ws M1 hw hwl d1 f1 q1 _ hq1 => ?_
  obtain ⟨L, rfl, hL⟩ := sub_strs hw
  rw [List.length_map] at hwl
  (repeat decreasing_trivial_pre_omega)
  refine compL_by (enc := U.str) (fun don rest acc M2 => M2 = M1 ∧ acc = (don.map Ce.see).map encC) L ⟨rfl, rfl⟩ ?_ ?_
  · intro don x rest acc M2 k e ⟨e1, e2⟩ hk
    subst e1 e2
    have hlen : don.length + rest.length + 1 = L.length := by rw [← e]; simp; omega
    (repeat decreasing_trivial_pre_omega)
    exact hk _ _ hq1 (fun _ => by rw [List.length_map, List.length_map]; unfold LIM; omega) ⟨rfl, by simp [encC]⟩
  intro acc M2 ⟨e1, e2⟩
  subst e1 e2
  intro r1 hr1
  have d2 := d1.upd (o := .lst ((L.map Ce.see).map encC)) hr1
  have r11 := d1.ne hr1
  have F2 := f1.upd (o := .lst ((L.map Ce.see).map encC)) (f1.non r11 hr1)
  have ha2 := F2.at_ ha1 ha
  have h1 : um M2 r1 (.lst ((L.map Ce.see).map encC)) r1 = some (.lst ((L.map Ce.see).map encC)) := um_same
  generalize um M2 r1 (.lst ((L.map Ce.see).map encC)) = M3 at *
  (repeat decreasing_trivial_pre_omega)
  refine compL_by (enc := U.str) (fun don rest acc M2 => M2 = M3 ∧ acc = (don.map Ce.ask).map encC) A ⟨rfl, rfl⟩ ?_ ?_
  · intro don x rest acc M2 k e ⟨e1, e2⟩ hk
    subst e1 e2
    have hlen : don.length + rest.length + 1 = A.length := by rw [← e]; simp; omega
    (repeat decreasing_trivial_pre_omega)
    exact hk _ _ ha2 (fun _ => by rw [List.length_map, List.length_map]; unfold LIM; omega) ⟨rfl, by simp [encC]⟩
  intro acc M4 ⟨e1, e2⟩
  subst e1 e2
  intro r2 hr2
  have d4 := d2.upd (o := .lst ((A.map Ce.ask).map encC)) hr2
  have r22 := d2.ne hr2
  have F4 := F2.upd (o := .lst ((A.map Ce.ask).map encC)) (F2.non r22 hr2)
  (repeat decreasing_trivial_pre_omega)
  refine o_addL (um_old h1 hr2) um_same (by simp only [List.length_map]; unfold LIM; omega) fun r3 hr3 => ?_
  rw [← List.map_append]
  have d5 := d4.upd (o := .lst ((L.map Ce.see ++ A.map Ce.ask).map encC)) hr3
  have F5 := F4.upd (o := .lst ((L.map Ce.see ++ A.map Ce.ask).map encC)) (F4.non (d4.ne hr3) hr3)
  have h3 : um (um M4 r2 (.lst ((A.map Ce.ask).map encC))) r3 (.lst ((L.map Ce.see ++ A.map Ce.ask).map encC)) r3 = some (.lst ((L.map Ce.see ++ A.map Ce.ask).map encC)) := um_same
  generalize um (um M4 r2 (.lst ((A.map Ce.ask).map encC))) r3 (.lst ((L.map Ce.see ++ A.map Ce.ask).map encC)) = M5 at *
  (repeat decreasing_trivial_pre_omega)
  refine hs M5 p r3 _ _ d5 h3 (by simp only [List.length_map, List.length_append]; omega) fun r4 ws M6 pe d6 f6 r41 _ _ h4 => ?_
  obtain ⟨E, rfl, pE⟩ := perm_map encC pe rfl
  have F6 := F5.trans f6
  have hp6 := F6.at_ hp1 hp
  have hEl : E.length ≤ 2 + A.length := by rw [pE.length_eq, List.length_append, List.length_map, List.length_map]; omega
  (repeat decreasing_trivial_pre_omega)
  refine compL_by (enc := U.str) (fun don rest acc M2 => ∃ PS : List Ce, acc = PS.map encC ∧ PS.length = don.length ∧ (∀ e ∈ PS, CeOk (fun f c => f ∈ P ∧ 0 ≤ c ∧ c < n) (· ∈ A) (· ∈ S) e) ∧ Dr M2 p ∧ Fr p M6 M2) P ⟨[], rfl, rfl, by simp, d6, Fr.refl _ _⟩ ?_ ?_
  · intro don x rest acc M7 k e ⟨PS, e1, e2, e3, e4, e5⟩ hk
    subst e1
    have hlen : don.length + rest.length + 1 = P.length := by rw [← e]; simp; omega
    have hp7 := e5.at_ hp1 hp6
    (repeat decreasing_trivial_pre_omega)
    refine hd.lt M7 p n _ e4 n0 (by omega) fun c M8 hc d8 f8 => ?_
    (repeat decreasing_trivial_pre_omega)
    refine hk _ _ (f8.at_ hp1 hp7) (fun _ => by rw [List.length_map]; unfold LIM; omega) ⟨PS ++ [.put x c], by simp [encC], by simp [e2], fun y hy => ?_, d8, e5.trans f8⟩
    rcases List.mem_append.mp hy with hy | hy
    · exact e3 y hy
    · rw [List.mem_singleton] at hy; subst hy; exact ⟨by rw [← e]; simp, by omega, by omega⟩
  intro acc M7 ⟨PS, e1, e2, e3, e4, e5⟩
  subst e1
  intro r5 hr5
  have d8 := e4.upd (o := .lst (PS.map encC)) hr5
  have F7 := F6.trans e5
  have h47 := e5.at_ r41 h4
  have F8 := F7.upd (o := .lst (PS.map encC)) (F7.non (e4.ne hr5) hr5)
  (repeat decreasing_trivial_pre_omega)
  refine o_addL (um_old h47 hr5) um_same (by simp only [List.length_map]; unfold LIM; omega) fun r6 hr6 => ?_
  rw [← List.map_append]
  (repeat decreasing_trivial_pre_omega)
  refine hq r6 (E ++ PS) _ (fun y hy => ?_) (by rw [List.length_append]; omega) (d8.upd hr6) (F8.upd (F8.non (d8.ne hr6) hr6)) (d8.ne hr6) (F8.non (d8.ne hr6) hr6) um_same
  rcases List.mem_append.mp hy with hy | hy
  · have hy := pE.mem_iff.mp hy
    rcases List.mem_append.mp hy with hy | hy
    · obtain ⟨f, hf, rfl⟩ := List.mem_map.mp hy
      exact hL f hf
    · obtain ⟨f, hf, rfl⟩ := List.mem_map.mp hy
      exact hf
  · exact e3 y hy
def EventsC (C : CE) (f : Nat) : Prop := ∀ (M : Hm) (p : Addr × Addr) (ra rs rp : Addr) (A S P : List Str) (n : Nat) (Q : QU), 0 < n → n < 100 → Dr M p → ra ≠ p.1 → M ra = some (.lst (A.map U.str)) → rs ≠ p.1 → M rs = some (.lst (S.map U.str)) → rp ≠ p.1 → M rp = some (.lst (P.map U.str)) → A.length ≤ 10 → S.length ≤ 10 → P.length ≤ 10 →
  (∀ (q : Addr) (es : List Ce) (M' : Hm), (∀ e ∈ es, CeOk (fun f c => f ∈ P ∧ 0 ≤ c ∧ c < n) (· ∈ A) (· ∈ S) e) → es.length ≤ 2 + A.length + P.length → Dr M' p → Fr p M M' → q ≠ p.1 → M q = none → M' q = some (.lst (es.map encC)) → Q (.ref q) M') → C f [.ref p.1, .int n, .ref ra, .ref rs, .ref rp] M Q
/-! whose files lie is done -/
def OwnO (st : Mst) : Prop := ∀ p ∈ st.owners, p.2 ∈ st.order
theorem step_ownL {b : Bk} {wd : List Int} {st s1 : Mst} {init stk : List Fm} {f : Fm} (h : OwnO st) (e : stepM b wd st init f = .inl (s1, stk)) : OwnO s1 := by
  unfold stepM at e
  split at e
  · split at e
    · cases e
    · cases e
      intro p hp
      exact downO_mem (P := fun q => q.2 ∈ st.order ++ [f.rule]) f.rule (layM f.evs) (fun q hq => by simp) st.owners (fun q hq => List.mem_append_left _ (h q hq)) p hp
  · split at e
    · cases e; exact h
    · split at e
      · cases e
      · split at e
        · cases e; exact h
        · cases e
  · cases e; exact h
  · split at e
    · cases e; exact h
    · split at e
      · cases e
      · cases e; exact h
theorem step_ownR {b : Bk} {wd : List Int} {st s1 : Mst} {init : List Fm} {f : Fm} {o : Out} (h : OwnO st) (e : stepM b wd st init f = .inr (s1, o)) : OwnO s1 := by
  unfold stepM at e
  split at e
  · split at e
    · cases e; exact h
    · cases e
  · split at e
    · cases e
    · split at e
      · cases e; exact h
      · split at e
        · cases e
        · cases e; exact h
  · cases e
  · split at e
    · cases e
    · split at e
      · cases e; exact h
      · cases e
theorem runM_own {b : Bk} {wd : List Int} : ∀ (n : Nat) (st : Mst) (stack : List Fm), OwnO st → OwnO (runM b wd n st stack).1
  | 0, st, stack, h => h
  | n + 1, st, stack, h => by
    rcases List.eq_nil_or_concat stack with rfl | ⟨init, f, rfl⟩
    · rw [runM_nil]; exact h
    · rw [List.concat_eq_append, runM_snoc]
      cases hs : stepM b wd st init f with
      | inl x => exact runM_own n x.1 x.2 (step_ownL h hs)
      | inr x => exact step_ownR (o := x.2) h hs
theorem goalM_own {b : Bk} {wd : List Int} {st : Mst} {g : Str} (h : OwnO st) : OwnO (goalM b wd st g).1 := by
  unfold goalM
  split
  · exact runM_own _ _ _ h
  · exact h
theorem goalsM_own {b : Bk} {wd : List Int} : ∀ {gs : List Str} {st : Mst}, OwnO st → OwnO (goalsM b wd st gs).1
  | [], st, h => h
  | g :: gs, st, h => by
    rw [goalsM_cons]
    split
    · exact goalsM_own h
    · have h2 := goalM_own (b := b) (wd := wd) (g := g) h
      cases e : goalM b wd st g with
      | mk s ou =>
        rw [e] at h2
        cases ou with
        | none => exact goalsM_own h2
        | some o => exact h2
/-! how many moves -/
theorem step_movesR {b : Bk} {wd : List Int} {st s1 : Mst} {init : List Fm} {f : Fm} {o : Out} (e : stepM b wd st init f = .inr (s1, o)) : s1.moves.length ≤ st.moves.length + 1 := by
  unfold stepM at e
  split at e
  · split at e
    · cases e; simp [mv]
    · cases e
  · split at e
    · cases e
    · split at e
      · cases e; omega
      · split at e
        · cases e
        · cases e; omega
  · cases e
  · split at e
    · cases e
    · split at e
      · cases e; simp [sn, mv]
      · cases e
theorem runM_moves {b : Bk} {wd : List Int} : ∀ (n : Nat) (st : Mst) (stack : List Fm), (runM b wd n st stack).1.moves.length ≤ st.moves.length + n
  | 0, st, stack => Nat.le_refl _
  | n + 1, st, stack => by
    rcases List.eq_nil_or_concat stack with rfl | ⟨init, f, rfl⟩
    · rw [runM_nil]; exact Nat.le_add_right _ _
    · rw [List.concat_eq_append, runM_snoc]
      cases hs : stepM b wd st init f with
      | inl x =>
        have h1 := (mu_step hs).2
        have h2 := runM_moves n x.1 x.2 (b := b) (wd := wd)
        show (runM b wd n x.1 x.2).1.moves.length ≤ _
        omega
      | inr x =>
        have h1 := step_movesR (o := x.2) hs
        show x.1.moves.length ≤ _
        omega
theorem goalM_moves {b : Bk} {wd : List Int} {st : Mst} {g : Str} : (goalM b wd st g).1.moves.length ≤ st.moves.length + (1 + mb b) := by
  unfold goalM
  split
  · rename_i bd hb
    have h1 := runM_moves (b := b) (wd := wd) (mu b (mv st g) [⟨g, bd, []⟩]) (mv st g) [⟨g, bd, []⟩]
    have h2 := mu_one (st := mv st g) hb
    have h3 : (mv st g).moves.length = st.moves.length + 1 := by simp [mv]
    omega
  · show st.moves.length ≤ _
    omega
theorem goalsM_moves {b : Bk} {wd : List Int} : ∀ {gs : List Str} {st : Mst}, (goalsM b wd st gs).1.moves.length ≤ st.moves.length + gs.length * (1 + mb b)
  | [], st => Nat.le_add_right _ _
  | g :: gs, st => by
    have hm : (g :: gs).length * (1 + mb b) = gs.length * (1 + mb b) + (1 + mb b) := by rw [List.length_cons, Nat.succ_mul]
    rw [goalsM_cons, hm]
    split
    · have := goalsM_moves (b := b) (wd := wd) (gs := gs) (st := st)
      omega
    · have h2 := goalM_moves (b := b) (wd := wd) (st := st) (g := g)
      cases e : goalM b wd st g with
      | mk s ou =>
        rw [e] at h2
        dsimp only at h2
        cases ou with
        | none =>
          have := goalsM_moves (b := b) (wd := wd) (gs := gs) (st := s)
          dsimp only
          omega
        | some o => dsimp only; omega
end Pl

set_option maxHeartbeats 1000000
/-! k05: joined -/
namespace K05
open PySem L2 Pl
def depth : Nat := 60
theorem c_draw (k : Nat) : DrawC (Cs T (k + 1)) 22 := fun M p many Q d h1 h2 hq => cs22 rfl (draw_ok d h1 h2 fun r M' r0 r1 d' fr => ⟨M', Pl.Sub.refl _, hq r M' r0 r1 d' (Fr.of_eq fr)⟩)
theorem c_pick (k : Nat) : PickC (Cs T (k + 2)) 23 := fun M p row us Q d hr h1 h2 hq => cs23 rfl (pick_ok (c_draw k) d hr h1 h2 fun x M' hx d' fr => ⟨M', Pl.Sub.refl _, hq x M' hx d' fr⟩)
theorem c_rare (k : Nat) : RareC (Cs T (k + 2)) 24 := fun M p many Q d h1 h2 hq => cs24 rfl (rare_ok (c_draw k) d h1 h2 fun b M' d' fr => ⟨M', Pl.Sub.refl _, hq b M' d' fr⟩)
theorem c_shuf (k : Nat) : ShufU (Cs T (k + 2)) 25 := fun M p r us Q d hr hl hq => cs25 rfl (shuffled_ok (c_draw k) d hr hl fun q ws M' h1 h2 h3 h4 h5 h6 h7 => ⟨M', Pl.Sub.refl _, hq q ws M' h1 h2 h3 h4 h5 h6 h7⟩)
theorem c_world (k : Nat) : WorldC (Cs T (k + 2)) 26 := fun M p b j Q hb d hq => cs26 rfl (world_ok (c_draw k) hb d fun wd M' h1 h2 h3 => ⟨M', Pl.Sub.refl _, hq wd M' h1 h2 h3⟩)
/-! the program's makings -/
theorem p_names (k : Nat) : NamesF (Cs T (k + 1)) 0 := fun M b Q hl hq => cs0 rfl (names_ok hl fun M' s => ⟨M', Pl.Sub.refl _, hq M' s⟩)
theorem p_body (k : Nat) : BodyF (Cs T (k + 1)) 1 := fun M b r bd Q hb hq => cs1 rfl (bodyOf_ok hb ⟨M, Pl.Sub.refl _, hq⟩)
theorem p_puts (k : Nat) : PutsC (Cs T (k + 1)) 2 := fun M es n Q h hq => cs2 rfl (puts_ok h fun p hp => ⟨_, Pl.Sub.refl _, hq p hp⟩)
theorem p_lay (k : Nat) : LayF (Cs T (k + 2)) 3 := fun M es Q hl hq => cs3 rfl (lay_ok (p_puts k) hl fun M' s => ⟨M', Pl.Sub.refl _, hq M' s⟩)
theorem p_init (k : Nat) : MakF (Cs T (k + 1)) 4 := fun M p b wd Q hm hq => cs4 rfl (making_init hm fun σ A M' h1 h2 h3 h4 => ⟨M', Pl.Sub.refl _, hq A M' h1 h2 h3 h4⟩)
theorem p_content (k : Nat) : ContentF (Cs T (k + 1)) 6 := fun M A b wd st f Q h hw hq => cs6 rfl (content_ok h hw ⟨M, Pl.Sub.refl _, hq⟩)
theorem p_look (k : Nat) : LookF (Cs T (k + 2)) 5 := fun M A b wd st rule f o evs Q h hw ho hl h1 h2 => cs5 rfl (look_ok (p_content k) h hw ho hl (fun c e => ⟨M, Pl.Sub.refl _, h1 c e⟩) fun A' M' g1 g2 g3 g4 => ⟨M', Pl.Sub.refl _, h2 A' M' g1 g2 g3 g4⟩)
theorem p_faults (k : Nat) : FaultsF (Cs T (k + 2)) 7 := fun M A b wd st rule lay Q h hl hq => cs7 rfl (faults_ok (p_names k) h hl fun M' s => ⟨M', Pl.Sub.refl _, hq M' s⟩)
theorem p_down (k : Nat) : DownF (Cs T (k + 1)) 8 := fun M A b wd st rule lay Q h h1 h2 hq => cs8 rfl (laydown_ok h h1 h2 fun σ M' g1 g2 => ⟨M', Pl.Sub.refl _, hq M' g1 g2⟩)
theorem p_fin (k : Nat) : FinF (Cs T (k + 3)) 9 := fun M A b wd st rule evs Q h hb h0 h1 h2 h3 h4 q1 q2 => cs9 rfl (finish_ok (p_down (k + 1)) (p_faults k) (p_lay k) h hb h0 h1 h2 h3 h4 (fun M' o g1 g2 g3 => ⟨M', Pl.Sub.refl _, q1 M' o g1 g2 g3⟩) fun M' g1 g2 g3 => ⟨M', Pl.Sub.refl _, q2 M' g1 g2 g3⟩)
theorem p_laid (k : Nat) : LaidF (Cs T (k + 1)) 10 := fun M A b wd st Q h hs hl hq => cs10 rfl (laid_ok h hs hl fun M' s => ⟨M', Pl.Sub.refl _, hq M' s⟩)
theorem p_trac (k : Nat) : TracF (Cs T (k + 1)) 11 := fun M A b wd st Q h hs hl hq => cs11 rfl (traces_ok h hs hl fun M' s => ⟨M', Pl.Sub.refl _, hq M' s⟩)
theorem p_finit (k : Nat) : InitFr (Cs T (k + 1)) 12 := fun M q r bd Q hm hq => cs12 rfl (frame_init hm fun σ z M' g1 g2 g3 g4 => ⟨M', Pl.Sub.refl _, hq z M' g1 g2 g3 g4⟩)
theorem p_step (k : Nat) : StepF (Cs T (k + 3)) 13 := fun M A z b wd st f Q h1 h2 h3 h4 h5 h6 h7 h8 h9 h10 h11 h12 q1 q2 => cs13 rfl (step_ok (p_look k) h1 h2 h3 h4 h5 h6 h7 h8 h9 h10 h11 h12 (fun A' M' st' g g0 g1 g2 g3 g4 => ⟨M', Pl.Sub.refl _, q1 A' M' st' g g0 g1 g2 g3 g4⟩) fun A' M' st' g0 g1 g2 g3 g4 => ⟨M', Pl.Sub.refl _, q2 A' M' st' g0 g1 g2 g3 g4⟩)
theorem p_beg (k : Nat) : BegF (Cs T (k + 2)) 15 := fun M A b wd st r bd Q h hb hl hq => cs15 rfl (begin_ok2 (p_finit k) (p_body k) h hb hl fun z M' g1 g2 g3 g4 => ⟨M', Pl.Sub.refl _, hq z M' g1 g2 g3 g4⟩)
theorem p_run (k : Nat) : RunF (Cs T (k + 4)) 14 := fun M A b wd st goal bd Q hb hw h hs hbd hB hq => cs14 rfl (rungoal_ok (p_fin k) (p_beg (k + 1)) (p_step k) hb hw h hs hbd hB fun A' M' st' ou g1 g2 g3 g4 g5 g6 g7 => ⟨M', Pl.Sub.refl _, hq A' M' st' ou g1 g2 g3 g4 g5 g6 g7⟩)
theorem p_goals (k : Nat) : GoalsF (Cs T (k + 5)) 16 := fun M A b wd st gs Q hb hw h hs hg hB hq => cs16 rfl (rungoals_ok (p_run k) hb hw h hs hg hB fun A' M' st' ou g1 g2 g3 g4 g5 g6 g7 => ⟨M', Pl.Sub.refl _, hq A' M' st' ou g1 g2 g3 g4 g5 g6 g7⟩)
theorem p_mpart (k : Nat) : MPartF (Cs T (k + 6)) 17 := fun M b wd gs Q hb hw hg hB hq => cs17 rfl (makepart_ok (p_trac (k + 4)) (p_laid (k + 4)) (p_goals k) (p_init (k + 4)) hb hw hg hB fun M' s h1 h2 => ⟨M', Pl.Sub.refl _, hq M' s h1 h2⟩)
theorem p_make (k : Nat) : MPartF (Cs T (k + 7)) 18 := fun M b wd gs Q hb hw hg hB hq => cs18 rfl (by
  unfold b18
  (repeat decreasing_trivial_pre_omega)
  exact p_mpart k M b wd gs _ hb hw hg hB fun M' s h1 h2 => ⟨M', Pl.Sub.refl _, hq M' s h1 h2⟩)
theorem p_apart (k : Nat) : AlonF (Cs T (k + 6)) 19 := fun M b wd r Q hb hw hr hB hq => cs19 rfl (alonepart_ok (p_goals k) (p_init (k + 4)) hb hw hr hB fun M' s h1 h2 => ⟨M', Pl.Sub.refl _, hq M' s h1 h2⟩)
theorem p_alone (k : Nat) : AlonF (Cs T (k + 7)) 20 := fun M b wd r Q hb hw hr hB hq => cs20 rfl (by
  unfold b20
  (repeat decreasing_trivial_pre_omega)
  exact p_apart k M b wd r _ hb hw hr hB fun M' s h1 h2 => ⟨M', Pl.Sub.refl _, hq M' s h1 h2⟩)
/-! the law's makings -/
theorem l_lay (k : Nat) : LLayF (Cs T (k + 1)) 27 := fun M es Q ho hl hq => cs27 rfl (law_lay_ok (.inl rfl) ho hl fun M' s => ⟨M', Pl.Sub.refl _, hq M' s⟩)
theorem l_body (k : Nat) : LBodyF (Cs T (k + 1)) 28 := fun M b r bd Q hb hq => cs28 rfl (lbody_ok hb ⟨M, Pl.Sub.refl _, hq⟩)
theorem l_seen (k : Nat) : LSeenF (Cs T (k + 1)) 29 := fun M A z g b wd st f Q h hw hz hr hl h1 h2 => cs29 rfl (lseen_ok h hw hz hr hl (fun c e => ⟨M, Pl.Sub.refl _, h1 c e⟩) fun A' M' g1 g2 g3 g4 => ⟨M', Pl.Sub.refl _, h2 A' M' g1 g2 g3 g4⟩)
theorem l_brok (k : Nat) : LBrokF (Cs T (k + 2)) 30 := fun M A b st rule evs Q hb h ho hl hq => cs30 rfl (lbroken_ok (l_lay k) hb h ho hl fun M' s => ⟨M', Pl.Sub.refl _, hq M' s⟩)
theorem l_down (k : Nat) : LDownF (Cs T (k + 3)) 31 := fun M A b st rule evs Q hb h ho h0 h1 h2 h3 h4 q1 q2 => cs31 rfl (llaydown_ok (l_lay (k + 1)) (l_brok k) hb h ho h0 h1 h2 h3 h4 (fun M' o g1 g2 g3 => ⟨M', Pl.Sub.refl _, q1 M' o g1 g2 g3⟩) fun M' g1 g2 g3 => ⟨M', Pl.Sub.refl _, q2 M' g1 g2 g3⟩)
theorem l_goal (k : Nat) : LGoalF (Cs T (k + 4)) 32 := fun M A b wd st goal bd Q hb hw h hs hbd hB hmb hq => cs32 rfl (lgoal_ok (l_down k) (l_seen (k + 2)) (l_body (k + 2)) hb hw h hs hbd hB hmb fun A' M' st' ou g1 g2 g3 g4 g5 g6 g7 => ⟨M', Pl.Sub.refl _, hq A' M' st' ou g1 g2 g3 g4 g5 g6 g7⟩)
theorem l_make (k : Nat) : LMakeF (Cs T (k + 5)) 33 := fun M b wd gs Q hb hw hg hB hmb hq => cs33 rfl (lmake_ok (l_goal k) hb hw hg hB hmb fun M' s h1 h2 => ⟨M', Pl.Sub.refl _, hq M' s h1 h2⟩)
theorem l_alone (k : Nat) : LAlonF (Cs T (k + 6)) 34 := fun M b wd r Q hb hw hr hB hmb hq => cs34 rfl (lalone_ok (l_make k) hb hw hr hB hmb fun M' s h1 h2 => ⟨M', Pl.Sub.refl _, hq M' s h1 h2⟩)
/-! what is told may be compared -/
theorem out59 {ou : Option Out} (h : okU (outO ou) = true) : U.ok 59 (outO ou) = true := by
  cases ou with
  | none => decide +kernel
  | some o =>
    cases o with
    | broken a b c d => simpa only [outO, encO, okU, U.ok, List.all_cons, List.all_nil] using h
    | stuck l =>
      simp only [outO, encO, okU, U.ok, List.all_cons, List.all_nil, Bool.and_true, List.all_map, Bool.and_eq_true] at h ⊢
      exact ⟨h.1, h.2⟩
    | looks i => simpa only [outO, encO, okU, U.ok, List.all_cons, List.all_nil] using h
theorem getD_okS {l : List (Str × Str)} (h : ∀ p ∈ l, okS p.2 = true) (k : Str) : okS ((kfind l k).getD "") = true := by
  cases e : kfind l k with
  | none => decide +kernel
  | some v => exact h _ (kfind_mem e)
theorem getD_evs {l : List (Str × List Ev)} (h : ∀ p ∈ l, ∀ e ∈ p.2, e.ok) (k : Str) : ∀ e ∈ (kfind l k).getD [], e.ok := by
  cases e : kfind l k with
  | none => intro e he; cases he
  | some v => exact h _ (kfind_mem e)
theorem okU_make {b : Bk} {wd : List Int} {gs : List Str} (h : StOk b (goalsM b wd {} gs).1 []) (ho : okU (outO (goalsM b wd {} gs).2) = true) : okU (makeU b wd gs) = true := by
  unfold makeU
  show ([_, _, _, _].all (U.ok 59)) = true
  simp only [List.all_cons, List.all_nil, Bool.and_true, Bool.and_eq_true]
  refine ⟨out59 ho, ?_, ?_, ?_⟩
  · show ((sortS _).map _).all (U.ok 58) = true
    rw [List.all_map]
    refine List.all_eq_true.mpr fun f hf => ?_
    have hf := sortS_mem.mp hf
    obtain ⟨p, hp, rfl⟩ := List.mem_map.mp hf
    show [_, _, _].all (U.ok 57) = true
    simp only [List.all_cons, List.all_nil, Bool.and_true, Bool.and_eq_true]
    exact ⟨(h.ownS p hp).1, rfl, getD_okS (fun q hq => (h.ownS q hq).2) _⟩
  · show (List.map _ _).all (U.ok 58) = true
    rw [List.all_map]
    refine List.all_eq_true.mpr fun r hr => ?_
    show [_, _].all (U.ok 57) = true
    simp only [List.all_cons, List.all_nil, Bool.and_true, Bool.and_eq_true]
    exact ⟨(h.ordS r hr).1, evs_ok (getD_evs (fun p hp => (h.done p hp).2) _) (by decide)⟩
  · exact okU_strs h.movS (by decide)
theorem okU_alone {b : Bk} {wd : List Int} {r : Str} (h : StOk b (goalsM b wd {} [r]).1 []) (ho : okU (outO (goalsM b wd {} [r]).2) = true) : okU (aloneU b wd r) = true := by
  unfold aloneU aloneV
  have h1 := out59 ho
  cases e : (goalsM b wd {} [r]).2 with
  | none =>
    show ([_, _].all (U.ok 59)) = true
    simp only [List.all_cons, List.all_nil, Bool.and_true, Bool.and_eq_true]
    exact ⟨by decide +kernel, evs_ok (getD_evs (fun p hp => (h.done p hp).2) _) (by decide)⟩
  | some o =>
    rw [e] at h1
    show ([_, _].all (U.ok 59)) = true
    simp only [List.all_cons, List.all_nil, Bool.and_true, Bool.and_eq_true]
    exact ⟨h1, by decide +kernel⟩
theorem k_chain (k : Nat) : ChainC (Cs T (k + 1)) 35 := fun M r es n Q hn hr hq => cs35 rfl (chain_ok hn hr fun M' s => ⟨M', Pl.Sub.refl _, hq M' s⟩)
theorem k_some (k : Nat) : SomeC (Cs T (k + 3)) 36 := fun M p r us most Q d hr hl hm hq => cs36 rfl (some_ok (c_shuf k) (c_draw (k + 1)) d hr hl hm fun q ws M' h1 h2 h3 h4 h5 h6 h7 => ⟨M', Pl.Sub.refl _, hq q ws M' h1 h2 h3 h4 h5 h6 h7⟩)
theorem k_events (k : Nat) : EventsC (Cs T (k + 4)) 37 := fun M p ra rs rp A S P n Q h1 h2 d h3 h4 h5 h6 h7 h8 h9 h10 h11 hq => cs37 rfl (events_ok (c_draw (k + 2)) (c_shuf (k + 1)) (k_some k) h1 h2 d h3 h4 h5 h6 h7 h8 h9 h10 h11 fun q es M' g1 g2 g3 g4 g5 g6 g7 => ⟨M', Pl.Sub.refl _, hq q es M' g1 g2 g3 g4 g5 g6 g7⟩)
def h5 (X : S) : S := (.seq (.asg 5 (.call 37 (.cons (.var 1) (.cons (.var 2) (.cons (.ite (.ors (.cons (.var 4) (.cons (.call 24 (.cons (.var 1) (.cons (.int 4) .nil))) .nil))) (.lst (.cons (.str "p") .nil)) (.lst .nil)) (.cons (.var 3) (.cons (.call 36 (.cons (.var 1) (.cons (.var 3) (.cons (.int 2) .nil)))) .nil))))))) X)
def h6 (X : S) : S := (.seq (.asg 6 (.call 37 (.cons (.var 1) (.cons (.var 2) (.cons (.ite (.var 4) (.lst (.cons (.call 23 (.cons (.var 1) (.cons (.lst (.cons (.str "r") (.cons (.str "q") .nil))) .nil))) .nil)) (.lst .nil)) (.cons (.bin .add (.var 3) (.lst (.cons (.str "s") .nil))) (.cons (.call 36 (.cons (.var 1) (.cons (.var 3) (.cons (.int 2) .nil)))) .nil))))))) X)
def h8 (X : S) : S := (.seq (.asg 7 (.call 36 (.cons (.var 1) (.cons (.lst (.cons (.str "q") (.cons (.str "p") .nil))) (.cons (.int 2) .nil))))) (.seq (.asg 8 (.call 36 (.cons (.var 1) (.cons (.var 3) (.cons (.int 3) .nil))))) (.seq (.ifs (.cmp .eq (.call 22 (.cons (.var 1) (.cons (.int 3) .nil))) (.int 1)) (.seq (.asg 8 (.call 25 (.cons (.var 1) (.cons (.bin .add (.var 8) (.lst (.cons (.str "s") .nil))) .nil)))) .skip) .skip) X)))
def h9 (X : S) : S := (.seq (.asg 9 (.call 37 (.cons (.var 1) (.cons (.var 2) (.cons (.var 7) (.cons (.bin .add (.var 3) (.lst (.cons (.str "s") .nil))) (.cons (.var 8) .nil))))))) (.seq (.asg 10 (.lst (.cons (.tup (.cons (.str "q") (.cons (.call 35 (.cons (.var 5) (.cons (.var 2) .nil))) .nil))) (.cons (.tup (.cons (.str "p") (.cons (.call 35 (.cons (.var 6) (.cons (.var 2) .nil))) .nil))) (.cons (.tup (.cons (.str "r") (.cons (.call 35 (.cons (.var 9) (.cons (.var 2) .nil))) .nil))) .nil))))) (.seq (.asg 11 (.tup (.cons (.var 2) (.cons (.dtup (.cons (.str "s") .nil)) (.cons (.blt .tuple (.cons (.call 25 (.cons (.var 1) (.cons (.var 10) .nil))) .nil)) .nil))))) X)))
def h1 (X : S) : S := (.seq (.asg 1 (.call 21 (.cons (.var 0) .nil))) (.seq (.asg 2 (.bin .add (.int 1) (.call 22 (.cons (.var 1) (.cons (.int 2) .nil))))) (.seq (.asg 3 (.lst (.cons (.str "x") (.cons (.str "y") (.cons (.str "z") (.cons (.str "w") .nil)))))) (.seq (.asg 4 (.cmp .eq (.call 22 (.cons (.var 1) (.cons (.int 3) .nil))) (.int 1))) X))))
def bTail : S := (.seq (.for_ (.one 12) (.iRange (.int 3)) (.seq (.asg 13 (.call 26 (.cons (.var 1) (.cons (.var 11) .nil)))) (.seq (.asg 14 (.blt .tuple (.cons (.slice (.call 25 (.cons (.var 1) (.cons (.lst (.cons (.str "q") (.cons (.str "p") (.cons (.str "r") .nil)))) .nil))) .nil (.bin .add (.int 1) (.call 22 (.cons (.var 1) (.cons (.int 3) .nil))))) .nil))) (.seq (.asg 15 (.call 18 (.cons (.var 11) (.cons (.var 13) (.cons (.var 14) .nil))))) (.seq (.asg 16 (.call 33 (.cons (.var 11) (.cons (.var 13) (.cons (.var 14) .nil))))) (.seq (.ifs (.ors (.cons (.cmp .ne (.var 15) (.var 16)) (.cons (.not (.isinst (.ix (.var 15) (.int 0)) "tuple")) .nil))) (.seq (.ret (.bl false)) .skip) .skip) (.seq (.ifs (.cmp .ne (.call 20 (.cons (.var 11) (.cons (.var 13) (.cons (.ix (.var 14) (.int 0)) .nil)))) (.call 34 (.cons (.var 11) (.cons (.var 13) (.cons (.ix (.var 14) (.int 0)) .nil))))) (.seq (.ret (.bl false)) .skip) .skip) (.seq (.asg 17 (.comp [("row", 18)] (.one 18) (.iSeq (.ix (.var 15) (.int 1))) .nil (.ix (.var 18) (.int 2)))) (.seq (.ifs (.not (.blt .all (.cons (.comp [("rule", 19)] (.one 19) (.iSeq (.var 17)) .nil (.cmp .isin (.var 19) (.comp [("row", 18)] (.one 18) (.iSeq (.ix (.var 15) (.int 2))) .nil (.ix (.var 18) (.int 0))))) .nil))) (.seq (.ret (.bl false)) .skip) .skip) .skip))))))))) (.seq (.ret (.bl true)) .skip))
theorem b38_eq : b38 = h1 (h5 (h6 (h8 (h9 bTail)))) := rfl
def FL : List Str := ["x", "y", "z", "w"]
def EsOk (n : Nat) (es : List Ce) : Prop := (∀ e ∈ es, CeOk (fun f c => ok1 f ∧ 0 ≤ c ∧ c < n) (fun r => r ∈ (["q", "p", "r"] : List Str)) ok1 e) ∧ es.length ≤ 9
def EsAt (M : Hm) (p : Addr × Addr) (n : Nat) (q : Addr) (es : List Ce) : Prop := q ≠ p.1 ∧ M q = some (.lst (es.map encC)) ∧ EsOk n es
theorem EsAt.fr {M M' : Hm} {p : Addr × Addr} {n : Nat} {q : Addr} {es : List Ce} (h : EsAt M p n q es) (f : Fr p M M') : EsAt M' p n q es := ⟨h.1, f.at_ h.1 h.2.1, h.2.2⟩
theorem flok : ∀ x ∈ FL, ok1 x := by
  unfold ok1
  decide +kernel
theorem sok : ok1 "s" := by
  unfold ok1
  decide +kernel
section
variable {nx bk ct : SU → Hm → Prop} {rt : QU} {M : Hm} {p : Addr × Addr} {n : Nat} {fl : Addr} {k : Bool} {u0 : U} {X : S} {u4 u5 u6 u7 u8 : Option U}
theorem h5_ok (n0 : 0 < n) (n1 : n < 50) (d : Dr M p) (fl1 : fl ≠ p.1) (hfl : M fl = some (.lst (FL.map U.str)))
    (hq : ∀ q es M', EsAt M' p n q es → Dr M' p → Fr p M M' → wS (Cs T 59) X ⟨nx, rt, bk, ct⟩ [some u0, some (.ref p.1), some (.int n), some (.ref fl), some (.bl k), some (.ref q), none, none, none, none, none, none, none, none, none, none, none, none, none, none] M') :
    wS (Cs T 59) (h5 X) ⟨nx, rt, bk, ct⟩ [some u0, some (.ref p.1), some (.int n), some (.ref fl), some (.bl k), none, none, none, none, none, none, none, none, none, none, none, none, none, none, none] M := by
  have go : ∀ (ra : Addr) (A : List Str) (rp : Addr) (P : List Str) (M2 : Hm) (Q : QU), (∀ q es M', EsAt M' p n q es → Dr M' p → Fr p M M' → Q (.ref q) M') → (∀ r ∈ A, r ∈ (["p"] : List Str)) → A.length ≤ 1 → ra ≠ p.1 → M2 ra = some (.lst (A.map U.str)) → (∀ f ∈ P, f ∈ FL) → P.length ≤ 2 → rp ≠ p.1 → M2 rp = some (.lst (P.map U.str)) → Dr M2 p → Fr p M M2 → Cs T 59 37 [.ref p.1, .int n, .ref ra, .ref fl, .ref rp] M2 Q := fun ra A rp P M2 Q hq hA hA1 ra1 hra hP hwl rp1 hrp d2 f2 => by
    refine k_events 55 M2 p ra fl rp A FL P n _ n0 (by omega) d2 ra1 hra fl1 (f2.at_ fl1 hfl) rp1 hrp (by omega) (by decide) (by omega) fun q es M3 he hel d3 f3 q1 _ hq3 => ?_
    refine hq q es M3 ⟨q1, hq3, fun e h => ?_, by omega⟩ d3 (f2.trans f3)
    have := he e h
    cases e with
    | see f => exact flok f this
    | ask r =>
      have h2 := hA r this
      rw [List.mem_singleton] at h2
      subst h2
      exact List.mem_cons_of_mem _ List.mem_cons_self
    | put f c => exact ⟨flok f (hP f this.1), this.2⟩
  unfold h5
  have fr0 : Fr p M M := Fr.refl _ _
  cases k with
  | true =>
    (repeat decreasing_trivial_pre_omega)
    intro ra hra
    (repeat decreasing_trivial_pre_omega)
    have e1 := d.upd (o := .lst ((["p"] : List Str).map U.str)) hra
    have e2 := fr0.upd (o := .lst ((["p"] : List Str).map U.str)) (fr0.non (d.ne hra) hra)
    have e3 : um M ra (.lst ((["p"] : List Str).map U.str)) ra = some (.lst ((["p"] : List Str).map U.str)) := um_same
    have ra1 := d.ne hra
    change Cs T 59 36 _ (um M ra (.lst ((["p"] : List Str).map U.str))) _
    generalize um M ra (.lst ((["p"] : List Str).map U.str)) = M5 at *
    refine k_some 56 M5 p fl _ 2 _ e1 (e2.at_ fl1 hfl) (by decide) (by decide) fun rp ws M6 hw hwl d6 f6 rp1 _ hrp => ?_
    obtain ⟨P, rfl, hP⟩ := sub_strs hw
    rw [List.length_map] at hwl
    (repeat decreasing_trivial_pre_omega)
    refine go ra ["p"] rp P M6 _ (fun q es M' g1 g2 g3 => ?_) (by simp) (by simp) ra1 (f6.at_ ra1 e3) hP hwl rp1 hrp d6 (e2.trans f6)
    exact hq q es M' g1 g2 g3
  | false =>
    (repeat decreasing_trivial_pre_omega)
    refine c_rare 57 M p 4 _ d (by decide) (by decide) fun bb M1 d1 f1 => ?_
    cases bb with
    | true =>
      (repeat decreasing_trivial_pre_omega)
      intro ra hra
      (repeat decreasing_trivial_pre_omega)
      have e1 := d1.upd (o := .lst ((["p"] : List Str).map U.str)) hra
      have e2 := f1.upd (o := .lst ((["p"] : List Str).map U.str)) (f1.non (d1.ne hra) hra)
      have e3 : um M1 ra (.lst ((["p"] : List Str).map U.str)) ra = some (.lst ((["p"] : List Str).map U.str)) := um_same
      have ra1 := d1.ne hra
      change Cs T 59 36 _ (um M1 ra (.lst ((["p"] : List Str).map U.str))) _
      generalize um M1 ra (.lst ((["p"] : List Str).map U.str)) = M5 at *
      refine k_some 56 M5 p fl _ 2 _ e1 (e2.at_ fl1 hfl) (by decide) (by decide) fun rp ws M6 hw hwl d6 f6 rp1 _ hrp => ?_
      obtain ⟨P, rfl, hP⟩ := sub_strs hw
      rw [List.length_map] at hwl
      (repeat decreasing_trivial_pre_omega)
      refine go ra ["p"] rp P M6 _ (fun q es M' g1 g2 g3 => ?_) (by simp) (by simp) ra1 (f6.at_ ra1 e3) hP hwl rp1 hrp d6 (e2.trans f6)
      exact hq q es M' g1 g2 g3
    | false =>
      (repeat decreasing_trivial_pre_omega)
      intro ra hra
      (repeat decreasing_trivial_pre_omega)
      have e1 := d1.upd (o := .lst (([] : List Str).map U.str)) hra
      have e2 := f1.upd (o := .lst (([] : List Str).map U.str)) (f1.non (d1.ne hra) hra)
      have e3 : um M1 ra (.lst (([] : List Str).map U.str)) ra = some (.lst (([] : List Str).map U.str)) := um_same
      have ra1 := d1.ne hra
      change Cs T 59 36 _ (um M1 ra (.lst (([] : List Str).map U.str))) _
      generalize um M1 ra (.lst (([] : List Str).map U.str)) = M5 at *
      refine k_some 56 M5 p fl _ 2 _ e1 (e2.at_ fl1 hfl) (by decide) (by decide) fun rp ws M6 hw hwl d6 f6 rp1 _ hrp => ?_
      obtain ⟨P, rfl, hP⟩ := sub_strs hw
      rw [List.length_map] at hwl
      (repeat decreasing_trivial_pre_omega)
      refine go ra [] rp P M6 _ (fun q es M' g1 g2 g3 => ?_) (by simp) (by simp) ra1 (f6.at_ ra1 e3) hP hwl rp1 hrp d6 (e2.trans f6)
      exact hq q es M' g1 g2 g3
theorem sAdd {M1 : Hm} {Q : QU} {w : Hm → Prop} (hfl1 : M1 fl = some (.lst (FL.map U.str))) (d1 : Dr M1 p) (hq : ∀ rs M2, rs ≠ p.1 → M2 rs = some (.lst ((FL ++ [("s" : Str)]).map U.str)) → Dr M2 p → Fr p M1 M2 → Q (.ref rs) M2) : ∀ t, M1 t = none → binW .add (.ref fl) (.ref t) (um M1 t (.lst [.str "s"])) Q := fun t ht => by
  have d2 := d1.upd (o := .lst [.str "s"]) ht
  refine o_addL (um_old hfl1 ht) um_same (by decide) fun rs hrs => ?_
  exact hq rs _ (d2.ne hrs) um_same (d2.upd hrs) (sub_um (sub_um (Sub.refl _) ht) (um_none hrs)).fr
theorem h6_ok {q5 : Addr} (n0 : 0 < n) (n1 : n < 50) (d : Dr M p) (fl1 : fl ≠ p.1) (hfl : M fl = some (.lst (FL.map U.str)))
    (hq : ∀ q es M', EsAt M' p n q es → Dr M' p → Fr p M M' → wS (Cs T 59) X ⟨nx, rt, bk, ct⟩ [some u0, some (.ref p.1), some (.int n), some (.ref fl), some (.bl k), some (.ref q5), some (.ref q), none, none, none, none, none, none, none, none, none, none, none, none, none] M') :
    wS (Cs T 59) (h6 X) ⟨nx, rt, bk, ct⟩ [some u0, some (.ref p.1), some (.int n), some (.ref fl), some (.bl k), some (.ref q5), none, none, none, none, none, none, none, none, none, none, none, none, none, none] M := by
  have go : ∀ (ra : Addr) (A : List Str) (rs rp : Addr) (P : List Str) (M2 : Hm) (Q : QU), (∀ q es M', EsAt M' p n q es → Dr M' p → Fr p M M' → Q (.ref q) M') → (∀ r ∈ A, r ∈ (["r", "q"] : List Str)) → A.length ≤ 1 → ra ≠ p.1 → M2 ra = some (.lst (A.map U.str)) → rs ≠ p.1 → M2 rs = some (.lst ((FL ++ [("s" : Str)]).map U.str)) → (∀ f ∈ P, f ∈ FL) → P.length ≤ 2 → rp ≠ p.1 → M2 rp = some (.lst (P.map U.str)) → Dr M2 p → Fr p M M2 → Cs T 59 37 [.ref p.1, .int n, .ref ra, .ref rs, .ref rp] M2 Q := fun ra A rs rp P M2 Q hq hA hA1 ra1 hra rs1 hrs hP hwl rp1 hrp d2 f2 => by
    refine k_events 55 M2 p ra rs rp A (FL ++ [("s" : Str)]) P n _ n0 (by omega) d2 ra1 hra rs1 hrs rp1 hrp (by omega) (by decide) (by omega) fun q es M3 he hel d3 f3 q1 _ hq3 => ?_
    refine hq q es M3 ⟨q1, hq3, fun e h => ?_, by omega⟩ d3 (f2.trans f3)
    have := he e h
    cases e with
    | see f =>
      rcases List.mem_append.mp this with h2 | h2
      · exact flok f h2
      · rw [List.mem_singleton] at h2; subst h2; exact sok
    | ask r =>
      have h2 := hA r this
      rcases List.mem_cons.mp h2 with rfl | h2
      · simp [CeOk]
      · rw [List.mem_singleton] at h2; subst h2; simp [CeOk]
    | put f c => exact ⟨flok f (hP f this.1), this.2⟩
  unfold h6
  cases k with
  | true =>
    (repeat decreasing_trivial_pre_omega)
    intro a ha
    have d1 := d.upd (o := .lst [.str "r", .str "q"]) ha
    have F1 : Fr p M (um M a (.lst [.str "r", .str "q"])) := (Fr.refl _ _).upd ha
    (repeat decreasing_trivial_pre_omega)
    refine c_pick 57 _ p _ _ _ d1 (.inr ⟨a, rfl, d.ne ha, um_same⟩) (by simp) (by simp) fun x M2 hx d2 f2 => ?_
    have hx' : ∃ s : Str, s ∈ (["r", "q"] : List Str) ∧ x = .str s := by
      simp only [List.mem_cons, List.not_mem_nil, or_false] at hx
      rcases hx with rfl | rfl
      · exact ⟨_, List.mem_cons_self, rfl⟩
      · exact ⟨_, List.mem_cons_of_mem _ List.mem_cons_self, rfl⟩
    obtain ⟨s, hs, rfl⟩ := hx'
    (repeat decreasing_trivial_pre_omega)
    intro ra hra
    have d3 := d2.upd (o := .lst [.str s]) hra
    have F2 := F1.trans f2
    have F3 := F2.upd (o := .lst [.str s]) (F2.non (d2.ne hra) hra)
    have hfl3 := F3.at_ fl1 hfl
    have ra1 := d2.ne hra
    have hra3 : um M2 ra (.lst [.str s]) ra = some (.lst [.str s]) := um_same
    generalize um M2 ra (.lst [.str s]) = M3 at *
    (repeat decreasing_trivial_pre_omega)
    intro t ht
    refine sAdd (w := fun _ => True) hfl3 d3 (fun rs M4 rs1 hrs d4 f4 => ?_) t ht
    (repeat decreasing_trivial_pre_omega)
    refine k_some 56 M4 p fl _ 2 _ d4 (f4.at_ fl1 hfl3) (by decide) (by decide) fun rp ws M6 hw hwl d6 f6 rp1 _ hrp => ?_
    obtain ⟨P, rfl, hP⟩ := sub_strs hw
    rw [List.length_map] at hwl
    (repeat decreasing_trivial_pre_omega)
    refine go ra [s] rs rp P M6 _ (fun q es M' g1 g2 g3 => ?_) (by intro r hr; rw [List.mem_singleton] at hr; subst hr; exact hs) (by simp) ra1 (f6.at_ ra1 (f4.at_ ra1 hra3)) rs1 (f6.at_ rs1 hrs) hP hwl rp1 hrp d6 ((F3.trans f4).trans f6)
    exact hq q es M' g1 g2 g3
  | false =>
    (repeat decreasing_trivial_pre_omega)
    intro ra hra
    have d3 := d.upd (o := .lst []) hra
    have F3 : Fr p M (um M ra (.lst [])) := (Fr.refl _ _).upd hra
    have hfl3 := F3.at_ fl1 hfl
    have ra1 := d.ne hra
    have hra3 : um M ra (.lst []) ra = some (.lst []) := um_same
    generalize um M ra (.lst []) = M3 at *
    (repeat decreasing_trivial_pre_omega)
    intro t ht
    refine sAdd (w := fun _ => True) hfl3 d3 (fun rs M4 rs1 hrs d4 f4 => ?_) t ht
    (repeat decreasing_trivial_pre_omega)
    refine k_some 56 M4 p fl _ 2 _ d4 (f4.at_ fl1 hfl3) (by decide) (by decide) fun rp ws M6 hw hwl d6 f6 rp1 _ hrp => ?_
    obtain ⟨P, rfl, hP⟩ := sub_strs hw
    rw [List.length_map] at hwl
    (repeat decreasing_trivial_pre_omega)
    refine go ra [] rs rp P M6 _ (fun q es M' g1 g2 g3 => ?_) (by simp) (by simp) ra1 (f6.at_ ra1 (f4.at_ ra1 hra3)) rs1 (f6.at_ rs1 hrs) hP hwl rp1 hrp d6 ((F3.trans f4).trans f6)
    exact hq q es M' g1 g2 g3
theorem h8_ok {q5 q6 : Addr} (d : Dr M p) (fl1 : fl ≠ p.1) (hfl : M fl = some (.lst (FL.map U.str)))
    (hq : ∀ (ra : Addr) (A : List Str) (rp : Addr) (P : List Str) (M' : Hm), (∀ r ∈ A, r ∈ (["q", "p"] : List Str)) → A.length ≤ 2 → ra ≠ p.1 → M' ra = some (.lst (A.map U.str)) → (∀ f ∈ P, f ∈ FL ++ [("s" : Str)]) → P.length ≤ 4 → rp ≠ p.1 → M' rp = some (.lst (P.map U.str)) → Dr M' p → Fr p M M' → wS (Cs T 59) X ⟨nx, rt, bk, ct⟩ [some u0, some (.ref p.1), some (.int n), some (.ref fl), some (.bl k), some (.ref q5), some (.ref q6), some (.ref ra), some (.ref rp), none, none, none, none, none, none, none, none, none, none, none] M') :
    wS (Cs T 59) (h8 X) ⟨nx, rt, bk, ct⟩ [some u0, some (.ref p.1), some (.int n), some (.ref fl), some (.bl k), some (.ref q5), some (.ref q6), none, none, none, none, none, none, none, none, none, none, none, none, none] M := by
  unfold h8
  (repeat decreasing_trivial_pre_omega)
  intro a ha
  have d1 := d.upd (o := .lst [.str "q", .str "p"]) ha
  have F1 : Fr p M (um M a (.lst [.str "q", .str "p"])) := (Fr.refl _ _).upd ha
  have ha1 : um M a (.lst [.str "q", .str "p"]) a = some (.lst ((["q", "p"] : List Str).map U.str)) := um_same
  generalize um M a (.lst [.str "q", .str "p"]) = M1 at *
  (repeat decreasing_trivial_pre_omega)
  refine k_some 56 M1 p a _ 2 _ d1 ha1 (by decide) (by decide) fun ra ws M2 hw hwl d2 f2 ra1 _ hra => ?_
  obtain ⟨A, rfl, hA⟩ := sub_strs hw
  rw [List.length_map] at hwl
  have F2 := F1.trans f2
  (repeat decreasing_trivial_pre_omega)
  refine k_some 56 M2 p fl _ 3 _ d2 (F2.at_ fl1 hfl) (by decide) (by decide) fun rp ws M3 hw3 hwl3 d3 f3 rp1 _ hrp => ?_
  obtain ⟨P, rfl, hP⟩ := sub_strs hw3
  rw [List.length_map] at hwl3
  have F3 := F2.trans f3
  have hra3 := f3.at_ ra1 hra
  (repeat decreasing_trivial_pre_omega)
  refine (c_draw 58).lt M3 p 3 _ d3 (by decide) (by decide) fun c M4 hc d4 f4 => ?_
  have F4 := F3.trans f4
  have hra4 := f4.at_ ra1 hra3
  have hrp4 := f4.at_ rp1 hrp
  (repeat decreasing_trivial_pre_omega)
  refine i_ifd (fun _ => ?_) (fun _ => ?_)
  · (repeat decreasing_trivial_pre_omega)
    intro t ht
    have d5 := d4.upd (o := .lst [.str "s"]) ht
    (repeat decreasing_trivial_pre_omega)
    refine o_addL (um_old hrp4 ht) um_same (by rw [List.length_map]; simp; unfold LIM; omega) fun y hy => ?_
    have e1 : P.map U.str ++ [.str "s"] = (P ++ [("s" : Str)]).map U.str := by simp
    rw [e1]
    have d6 := d5.upd (o := .lst ((P ++ [("s" : Str)]).map U.str)) hy
    have F6 := F4.trans (sub_um (sub_um (Sub.refl _) ht) (um_none hy) : Sub M4 (um (um M4 t (.lst [.str "s"])) y (.lst ((P ++ [("s" : Str)]).map U.str)))).fr
    have hy6 : um (um M4 t (.lst [.str "s"])) y (.lst ((P ++ [("s" : Str)]).map U.str)) y = some (.lst ((P ++ [("s" : Str)]).map U.str)) := um_same
    have hra6 := um_old (o := .lst ((P ++ [("s" : Str)]).map U.str)) (um_old (o := .lst [.str "s"]) hra4 ht) hy
    generalize um (um M4 t (.lst [.str "s"])) y (.lst ((P ++ [("s" : Str)]).map U.str)) = M6 at *
    (repeat decreasing_trivial_pre_omega)
    refine c_shuf 57 M6 p y _ _ d6 hy6 (by rw [List.length_map]; simp; omega) fun q ws M7 pe d7 f7 q1 _ _ hq7 => ?_
    obtain ⟨P2, rfl, pP⟩ := perm_map U.str pe rfl
    (repeat decreasing_trivial_pre_omega)
    refine hq ra A q P2 M7 hA (by omega) ra1 (f7.at_ ra1 hra6) (fun f hf => ?_) (by rw [pP.length_eq]; simp; omega) q1 hq7 d7 (F6.trans f7)
    rcases List.mem_append.mp (pP.mem_iff.mp hf) with h | h
    · exact List.mem_append_left _ (hP f h)
    · exact List.mem_append_right _ h
  · (repeat decreasing_trivial_pre_omega)
    exact hq ra A rp P M4 hA (by omega) ra1 hra4 (fun f hf => List.mem_append_left _ (hP f hf)) (by omega) rp1 hrp4 d4 F4
theorem h9_ok {q5 q6 ra rp : Addr} {A P : List Str} {e5 e6 : List Ce} (n0 : 0 < n) (n1 : n < 50) (d : Dr M p) (fl1 : fl ≠ p.1) (hfl : M fl = some (.lst (FL.map U.str))) (h5 : EsAt M p n q5 e5) (h6 : EsAt M p n q6 e6)
    (hA : ∀ r ∈ A, r ∈ (["q", "p"] : List Str)) (hAl : A.length ≤ 2) (ra1 : ra ≠ p.1) (hra : M ra = some (.lst (A.map U.str))) (hP : ∀ f ∈ P, f ∈ FL ++ [("s" : Str)]) (hPl : P.length ≤ 4) (rp1 : rp ≠ p.1) (hrp : M rp = some (.lst (P.map U.str)))
    (hq : ∀ b v9 v10 M', BkG b 13 → (∀ r ∈ (["q", "p", "r"] : List Str), r ∈ b.names) → Dr M' p → wS (Cs T 59) X ⟨nx, rt, bk, ct⟩ [some u0, some (.ref p.1), some (.int n), some (.ref fl), some (.bl k), some (.ref q5), some (.ref q6), some (.ref ra), some (.ref rp), v9, v10, some (encBk b), none, none, none, none, none, none, none, none] M') :
    wS (Cs T 59) (h9 X) ⟨nx, rt, bk, ct⟩ [some u0, some (.ref p.1), some (.int n), some (.ref fl), some (.bl k), some (.ref q5), some (.ref q6), some (.ref ra), some (.ref rp), none, none, none, none, none, none, none, none, none, none, none] M := by
  unfold h9
  (repeat decreasing_trivial_pre_omega)
  intro t ht
  refine sAdd (w := fun _ => True) hfl d (fun rs M1 rs1 hrs d1 f1 => ?_) t ht
  (repeat decreasing_trivial_pre_omega)
  refine k_events 55 M1 p ra rs rp A (FL ++ [("s" : Str)]) P n _ n0 (by omega) d1 ra1 (f1.at_ ra1 hra) rs1 hrs rp1 (f1.at_ rp1 hrp) (by omega) (by decide) (by omega) fun q9 e9 M2 he hel d2 f2 q91 _ hq9 => ?_
  have F2 := f1.trans f2
  have fok : ∀ f ∈ FL ++ [("s" : Str)], ok1 f := fun f hf => by
    rcases List.mem_append.mp hf with h2 | h2
    · exact flok f h2
    · rw [List.mem_singleton] at h2; subst h2; exact sok
  have h9 : EsAt M2 p n q9 e9 := ⟨q91, hq9, fun e h => by
    have := he e h
    cases e with
    | see f => exact fok f this
    | ask r =>
      rcases List.mem_cons.mp (hA r this) with rfl | h2
      · simp [CeOk]
      · rw [List.mem_singleton] at h2; subst h2; simp [CeOk]
    | put f c => exact ⟨fok f (hP f this.1), this.2⟩, by omega⟩
  have h52 := h5.fr F2
  have h62 := h6.fr F2
  (repeat decreasing_trivial_pre_omega)
  refine k_chain 58 M2 q5 e5 n _ (by omega) h52.2.1 fun M3 s3 => ?_
  (repeat decreasing_trivial_pre_omega)
  refine k_chain 58 M3 q6 e6 n _ (by omega) (s3 _ _ h62.2.1) fun M4 s4 => ?_
  (repeat decreasing_trivial_pre_omega)
  refine k_chain 58 M4 q9 e9 n _ (by omega) (s4 _ _ (s3 _ _ h9.2.1)) fun M5 s5 => ?_
  (repeat decreasing_trivial_pre_omega)
  intro rw0 hrw
  have d5 := ((d2.sub s3).sub s4).sub s5
  have d6 := d5.upd (o := .lst [.tup [.str "q", encB (chainM (n + 1) e5)], .tup [.str "p", encB (chainM (n + 1) e6)], .tup [.str "r", encB (chainM (n + 1) e9)]]) hrw
  have hrw6 : um M5 rw0 (.lst [.tup [.str "q", encB (chainM (n + 1) e5)], .tup [.str "p", encB (chainM (n + 1) e6)], .tup [.str "r", encB (chainM (n + 1) e9)]]) rw0 = some (.lst (([("q", chainM (n + 1) e5), ("p", chainM (n + 1) e6), ("r", chainM (n + 1) e9)] : List (Str × Bd)).map encRow)) := um_same
  generalize um M5 rw0 (.lst [.tup [.str "q", encB (chainM (n + 1) e5)], .tup [.str "p", encB (chainM (n + 1) e6)], .tup [.str "r", encB (chainM (n + 1) e9)]]) = M6 at *
  (repeat decreasing_trivial_pre_omega)
  refine c_shuf 57 M6 p rw0 _ _ d6 hrw6 (by simp) fun q ws M7 pe d7 f7 q1 _ _ hq7 => ?_
  obtain ⟨L, rfl, pL⟩ := perm_map encRow pe rfl
  (repeat decreasing_trivial_pre_omega)
  have hLl : L.length = 3 := by rw [pL.length_eq]; rfl
  have hnm : ∀ r, r ∈ (["q", "p", "r"] : List Str) ↔ r ∈ L.map (·.1) := fun r => by
    rw [(pL.map (·.1)).mem_iff]
    rfl
  have okn : ∀ r ∈ (["q", "p", "r"] : List Str), ok1 r := by
    unfold ok1
    decide +kernel
  have bp : ∀ es, EsOk n es → BP (n + 1) (fun f c => ok1 f ∧ 0 ≤ c ∧ c < n) (fun r => r ∈ L.map (·.1)) ok1 13 (chainM (n + 1) es) := fun es h => by
    refine (BP.le (by have := h.2; omega) (chain_BP h.1)).mono (fun _ _ h => h) (fun r h => (hnm r).mp h) (fun _ h => h)
  have hb : BkG ⟨n, ["s"], L⟩ 13 := BkG.mk' n0 (by omega) (by intro h hh; rw [List.mem_singleton] at hh; subst hh; exact sok) (by decide) (by omega) (by omega) fun r hr => by
    have hr2 := pL.mem_iff.mp hr
    refine ⟨okn _ ((hnm _).mpr (List.mem_map.mpr ⟨r, hr, rfl⟩)), ?_⟩
    simp only [List.mem_cons, List.not_mem_nil, or_false] at hr2
    rcases hr2 with rfl | rfl | rfl
    · exact bp _ h5.2.2
    · exact bp _ h6.2.2
    · exact bp _ h9.2.2
  exact hq ⟨n, ["s"], L⟩ _ _ M7 hb (fun r hr => (hnm r).mp hr) d7
end
theorem kfind_keys {α : Type} {l : List (Str × α)} {k : Str} (h : k ∈ l.map (·.1)) : ∃ v, kfind l k = some v ∧ (k, v) ∈ l := by
  have : (kfind l k).isSome = true := by rw [kfind_isSome]; exact decide_eq_true h
  obtain ⟨v, hv⟩ := Option.isSome_iff_exists.mp this
  exact ⟨v, hv, kfind_mem hv⟩
theorem tail_ok {u0 u2 u3 u4 u5 u6 u7 u8 u9 u10 : Option U} {p : Addr × Addr} {b : Bk} {M : Hm} {nx bk ct : SU → Hm → Prop} {rt : QU} (hb : BkG b 13) (hnm : ∀ r ∈ (["q", "p", "r"] : List Str), r ∈ b.names) (d : Dr M p) (hq : ∀ M', rt (.bl true) M') :
    wS (Cs T 59) bTail ⟨nx, rt, bk, ct⟩ [u0, some (.ref p.1), u2, u3, u4, u5, u6, u7, u8, u9, u10, some (encBk b), none, none, none, none, none, none, none, none] M := by
  have hmb := hb.mb
  have hrl := hb.r8
  unfold bTail
  (repeat decreasing_trivial_pre_omega)
  refine ⟨by simp [LIM], by simp [LIM], ?_⟩
  rw [show (3 : Int) = ((3 : Nat) : Int) from rfl, rngU_nat]
  refine forL_by (enc := fun i : Nat => U.int (i : Nat)) (fun don rest σ M' => ∃ v12 v13 v14 v15 v16 v17 v18 v19, σ = [u0, some (.ref p.1), u2, u3, u4, u5, u6, u7, u8, u9, u10, some (encBk b), v12, v13, v14, v15, v16, v17, v18, v19] ∧ Dr M' p) (List.range 3) ⟨_, _, _, _, _, _, _, _, rfl, d⟩ ?_ ?_
  · intro don i rest σ M1 k e ⟨v12, v13, v14, v15, v16, v17, v18, v19, e1, d1⟩ hk
    subst e1
    (repeat decreasing_trivial_pre_omega)
    refine c_world 57 _ _ _ _ _ hb d1 fun wd M2 hwd d2 _ => ?_
    (repeat decreasing_trivial_pre_omega)
    intro a ha
    have d3 := d2.upd (o := .lst [.str "q", .str "p", .str "r"]) ha
    have ha3 : um M2 a (.lst [.str "q", .str "p", .str "r"]) a = some (.lst ((["q", "p", "r"] : List Str).map U.str)) := um_same
    generalize um M2 a (.lst [.str "q", .str "p", .str "r"]) = M3 at *
    (repeat decreasing_trivial_pre_omega)
    refine c_shuf 57 M3 p a _ _ d3 ha3 (by decide) fun q ws M4 pe d4 f4 q1 _ _ hq4 => ?_
    obtain ⟨L, rfl, pL⟩ := perm_map U.str pe rfl
    (repeat decreasing_trivial_pre_omega)
    refine (c_draw 58).lt M4 p 3 _ d4 (by decide) (by decide) fun c M5 hc d5 f5 => ?_
    have hq5 := f5.at_ q1 hq4
    (repeat decreasing_trivial_pre_omega)
    obtain ⟨m, em, m0, m1⟩ : ∃ m : Nat, (1 : Int) + (c : Nat) = (m : Nat) ∧ 0 < m ∧ m ≤ 3 := ⟨1 + c, by omega, by omega, by omega⟩
    rw [em, cutU_take, ← List.map_take]
    intro g hg
    have d6 := d5.upd (o := .lst ((L.take m).map U.str)) hg
    have hLl : L.length = 3 := by rw [pL.length_eq]; rfl
    have hgs : ∀ x ∈ L.take m, x ∈ b.names := fun x hx => hnm x (pL.mem_iff.mp (List.mem_of_mem_take hx))
    have hg0 : 0 < (L.take m).length := by rw [List.length_take]; omega
    have hg8 : (L.take m).length ≤ 3 := by rw [List.length_take]; omega
    have hgg : um M5 g (.lst ((L.take m).map U.str)) g = some (.lst ((L.take m).map U.str)) := um_same
    generalize L.take m = gs at *
    generalize um M5 g (.lst (gs.map U.str)) = M6 at *
    (repeat decreasing_trivial_pre_omega)
    have hB : gs.length * (1 + mb b) < 80000 := by
      have := Nat.mul_le_mul hg8 (show 1 + mb b ≤ 601 by omega)
      omega
    refine p_make 52 _ b wd gs _ hb.ok hwd hgs hB fun M7 s7 h1 h2 => ?_
    have d7 := d6.sub s7
    have okm := okU_make h1 h2
    (repeat decreasing_trivial_pre_omega)
    refine l_make 54 _ b wd gs _ hb.ok hwd hgs hB hmb fun M8 s8 _ _ => ?_
    have d8 := d7.sub s8
    have own := goalsM_own (b := b) (wd := wd) (gs := gs) (st := {}) (fun p hp => by cases hp)
    unfold makeU at okm ⊢
    cases hgo : goalsM b wd {} gs with
    | mk st ou =>
    rw [hgo] at okm h1 h2 own
    dsimp only at okm h1 h2 own ⊢
    obtain ⟨lo, hlo⟩ : ∃ lo, outO ou = .tup lo := by
      cases ou with
      | none => exact ⟨_, rfl⟩
      | some o => cases o <;> exact ⟨_, rfl⟩
    rw [hlo] at okm ⊢
    (repeat decreasing_trivial_pre_omega)
    refine eq_tup okm okm ?_
    (repeat decreasing_trivial_pre_omega)
    refine x_tup (v := .str gs[0]) (by rw [show (0 : Int) = ((0 : Nat) : Int) from rfl, atI_nat (by rw [List.length_map]; exact hg0), List.getElem_map]) ?_
    (repeat decreasing_trivial_pre_omega)
    have hr0 : gs[0] ∈ b.names := hgs _ (List.getElem_mem _)
    refine p_alone 52 _ b wd gs[0] _ hb.ok hwd hr0 (by omega) fun M9 s9 g1 g2 => ?_
    have oka := okU_alone g1 g2
    obtain ⟨l2, hl2⟩ : ∃ l2, aloneU b wd gs[0] = .tup l2 := by
      unfold aloneU aloneV
      split <;> exact ⟨_, rfl⟩
    rw [hl2] at oka ⊢
    (repeat decreasing_trivial_pre_omega)
    refine x_tup (v := .str gs[0]) (by rw [show (0 : Int) = ((0 : Nat) : Int) from rfl, atI_nat (by rw [List.length_map]; exact hg0), List.getElem_map]) ?_
    (repeat decreasing_trivial_pre_omega)
    refine l_alone 53 _ b wd gs[0] _ hb.ok hwd hr0 (by omega) hmb fun M10 s10 _ _ => ?_
    rw [hl2]
    refine c_ne (eq_tup oka oka ?_)
    have d10 := (d8.sub s9).sub s10
    unfold laidU tracesU
    (repeat decreasing_trivial_pre_omega)
    have hol := h1.ownL
    have hml := h1.ordL
    have hin : ∀ f ∈ sortS (st.owners.map (·.1)), (kfind st.owners f).getD "" ∈ st.order := fun f hf => by
      obtain ⟨v, e1, e2⟩ := kfind_keys (sortS_mem.mp hf)
      rw [e1]
      exact own _ e2
    have hmv := goalsM_moves (b := b) (wd := wd) (gs := gs) (st := {})
    rw [hgo] at hmv
    simp only [List.length_nil, Nat.zero_add] at hmv
    have hlenS : (sortS (st.owners.map (·.1))).length < 80000 := by rw [sortS_len, List.length_map]; omega
    refine compL_by (enc := fun f : Str => U.tup [.str f, .int ((kfind st.cont f).getD 0), .str ((kfind st.owners f).getD "")]) (fun don rest acc M' => M' = M10 ∧ acc = (don.map fun f => (kfind st.owners f).getD "").map U.str) (sortS (st.owners.map (·.1))) ⟨rfl, rfl⟩ ?_ ?_
    · intro don2 x rest2 acc M' k2 e' ⟨e1, e2⟩ hk2
      subst e1 e2
      have h3 : don2.length + rest2.length + 1 = (sortS (st.owners.map (·.1))).length := by rw [← e']; simp; omega
      (repeat decreasing_trivial_pre_omega)
      exact hk2 _ _ trivial (fun _ => by rw [List.length_map, List.length_map]; unfold LIM; omega) ⟨rfl, by simp⟩
    intro acc M11 ⟨e1, e2⟩
    subst e1 e2
    intro rl hrl
    have d11 := d10.upd (o := .lst (((sortS (st.owners.map (·.1))).map fun f => (kfind st.owners f).getD "").map U.str)) hrl
    have hrl2 : um M11 rl (.lst (((sortS (st.owners.map (·.1))).map fun f => (kfind st.owners f).getD "").map U.str)) rl = some (.lst (((sortS (st.owners.map (·.1))).map fun f => (kfind st.owners f).getD "").map U.str)) := um_same
    have hOW : ∀ r ∈ (sortS (st.owners.map (·.1))).map fun f => (kfind st.owners f).getD "", r ∈ st.order := fun r hr => by
      obtain ⟨f, hf, rfl⟩ := List.mem_map.mp hr
      exact hin f hf
    have hOWl : ((sortS (st.owners.map (·.1))).map fun f => (kfind st.owners f).getD "").length < 80000 := by rw [List.length_map]; exact hlenS
    generalize (sortS (st.owners.map (·.1))).map (fun f => (kfind st.owners f).getD "") = OW at *
    generalize um M11 rl (.lst (OW.map U.str)) = M12 at *
    (repeat decreasing_trivial_pre_omega)
    refine compL_by (enc := U.str) (fun don rest acc M' => Dr M' p ∧ Sub M12 M' ∧ acc = (don.map fun _ => true).map U.bl) OW ⟨d11, Sub.refl _, rfl⟩ ?_ ?_
    · intro don2 x rest2 acc M' k2 e' ⟨e1, e2, e3⟩ hk2
      subst e3
      have h3 : don2.length + rest2.length + 1 = OW.length := by rw [← e']; simp; omega
      have hrl3 := e2 _ _ hrl2
      have hx : x ∈ st.order := hOW x (by rw [← e']; simp)
      (repeat decreasing_trivial_pre_omega)
      refine compL_by (enc := fun r : Str => U.tup [.str r, trU ((kfind st.done r).getD [])]) (fun don rest acc M2 => M2 = M' ∧ acc = don.map U.str) st.order ⟨rfl, rfl⟩ ?_ ?_
      · intro don3 y rest3 acc M2 k3 e'' ⟨f1, f2⟩ hk3
        subst f1 f2
        have h4 : don3.length + rest3.length + 1 = st.order.length := by rw [← e'']; simp; omega
        (repeat decreasing_trivial_pre_omega)
        exact hk3 _ _ trivial (fun _ => by rw [List.length_map]; unfold LIM; omega) ⟨rfl, by simp⟩
      intro acc M2 ⟨f1, f2⟩
      subst f1 f2
      intro ro hro
      (repeat decreasing_trivial_pre_omega)
      have okO : okL (st.order.map U.str) = true := okL_of fun u hu => by
        obtain ⟨s, hs, rfl⟩ := List.mem_map.mp hu
        exact (h1.ordS s hs).1
      refine in_lst (x := .str x) um_same (h1.ordS x hx).1 okO ?_
      rw [decide_eq_true (mem_strs.mpr hx)]
      (repeat decreasing_trivial_pre_omega)
      exact hk2 _ _ (um_old hrl3 hro) (fun _ => by rw [List.length_map, List.length_map]; unfold LIM; omega) ⟨e1.upd hro, e2.trans (sub_um (Sub.refl _) hro), by simp⟩
    intro acc M13 ⟨e1, e2, e3⟩
    subst e3
    intro rb hrb
    (repeat decreasing_trivial_pre_omega)
    have hall : (OW.map fun _ => true).all id = true := by rw [List.all_map]; exact List.all_eq_true.mpr fun _ _ => rfl
    rw [hall]
    (repeat decreasing_trivial_pre_omega)
    exact hk _ _ trivial ⟨_, _, _, _, _, _, _, _, rfl, e1.upd hrb⟩
  · intro σ M1 ⟨v12, v13, v14, v15, v16, v17, v18, v19, e1, d1⟩
    subst e1
    (repeat decreasing_trivial_pre_omega)
    exact hq _
theorem law_true (ns : List Int) (hns : ns.length ≤ 63) : Cs T depth 38 [.rol (ns.map U.int)] (fun _ => none) (fun u _ => u = .bl true) := by
  refine cs38 (k := 59) rfl ?_
  rw [b38_eq]
  have tl := fun (p : Addr × Addr) (b : Bk) (M : Hm) => @tail_ok
  generalize hX : h5 (h6 (h8 (h9 bTail))) = X
  unfold h1
  (repeat decreasing_trivial_pre_omega)
  refine cs21 (k := 58) rfl (begin_ok hns fun p M0 s0 d0 => ⟨M0, Pl.Sub.refl _, ?_⟩)
  (repeat decreasing_trivial_pre_omega)
  refine (c_draw 58).lt M0 p 2 _ d0 (by decide) (by decide) fun n0 M1 hn0 d1 f1 => ?_
  (repeat decreasing_trivial_pre_omega)
  obtain ⟨n, en, n0, n1⟩ : ∃ n : Nat, (1 : Int) + (n0 : Nat) = (n : Nat) ∧ 0 < n ∧ n < 50 := ⟨1 + n0, by omega, by omega, by omega⟩
  rw [en]
  intro fl hfl
  have d2 := d1.upd (o := .lst [.str "x", .str "y", .str "z", .str "w"]) hfl
  have fl1 := d1.ne hfl
  have hfl2 : um M1 fl (.lst [.str "x", .str "y", .str "z", .str "w"]) fl = some (.lst (FL.map U.str)) := um_same
  generalize um M1 fl (.lst [.str "x", .str "y", .str "z", .str "w"]) = M2 at *
  (repeat decreasing_trivial_pre_omega)
  refine (c_draw 58).lt M2 p 3 _ d2 (by decide) (by decide) fun r M3 hr d3 f3 => ?_
  have hfl3 := f3.at_ fl1 hfl2
  (repeat decreasing_trivial_pre_omega)
  generalize decide ((r : Int) = 1) = kk
  subst hX
  refine h5_ok n0 n1 d3 fl1 hfl3 fun q5 e5 M4 h5 d4 f4 => ?_
  have hfl4 := f4.at_ fl1 hfl3
  refine h6_ok n0 n1 d4 fl1 hfl4 fun q6 e6 M5 h6 d5 f5 => ?_
  have hfl5 := f5.at_ fl1 hfl4
  refine h8_ok d5 fl1 hfl5 fun ra A rp P M6 hA hAl ra1 hra hP hPl rp1 hrp d6 f6 => ?_
  refine h9_ok n0 n1 d6 fl1 (f6.at_ fl1 hfl5) ((h5.fr f5).fr f6) (h6.fr f6) hA hAl ra1 hra hP hPl rp1 hrp fun b v9 v10 M7 hb hnm d7 => ?_
  exact tail_ok hb hnm d7 fun M' => ⟨M', Pl.Sub.refl _, rfl⟩
end K05

open PySem PySem.W PySem.Calls PyProof.Rows
theorem PySem.Challenge.cw_holdstill_k05_broken_and_stuck_holds : PySem.Challenge.rw_holdstill_k05_broken_and_stuck.Holds := by
  w_on; o_law
  refine HandSHeadRun.head_any (r := OpenLaw.row PySem.Challenge.rw_holdstill_k05_broken_and_stuck) (q := view (OpenLaw.row PySem.Challenge.rw_holdstill_k05_broken_and_stuck).prog [38]) (H := K05.hk) (ob := K05.ob) (M := 4000) (loose := K05.loose) (d := HandSHeadRun.topDef (OpenLaw.row PySem.Challenge.rw_holdstill_k05_broken_and_stuck).prog 38) (kwd := []) K05.ob_eq
    (by kernel_rfl) (fun s => by kernel_rfl) K05.run (by kernel_rfl) (by kernel_rfl) (by kernel_rfl) (by rfl) (by first | assumption | decide +kernel) (by decide +kernel) ⟨rfl, rfl, rfl, rfl, rfl, by decide +kernel⟩ ?hw ?hc
  case hw => w_witness2
  case hc =>
    refine L2.walk_ofE (l := PySem.Challenge.rw_holdstill_k05_broken_and_stuck) (n := 63) (k := 2 * K05.depth) (x := "script") (CX := L2.CX0) rfl (by decide) (by kernel_rfl) ⟨rfl, by decide, by decide⟩ ?F (fun _ _ _ _ z => z)
    intro w mg fa h Y G hmg0
    obtain ⟨K, KX, c⟩ := Y
    have hmg : mg ("law" : PySem.Str) = some (.ref fa) := by
      have e : (HandSHeadRun.topDef (OpenLaw.row PySem.Challenge.rw_holdstill_k05_broken_and_stuck).prog 38).name = ("law" : PySem.Str) := by kernel_rfl
      rw [← e]
      exact hmg0
    obtain ⟨fd, sp, hb, hs, hF⟩ := Pl.law_ok (P := (PySem.Challenge.rw_holdstill_k05_broken_and_stuck).prog) (wd := w) (n := 38) (k := K05.depth) (dl := K05.d38) K05.ck K05.bd rfl rfl rfl rfl KX G hmg c K05.law_true
    exact ⟨K, fd, sp, KX, hb, hs, hF⟩

