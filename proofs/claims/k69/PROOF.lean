import PyProof.Rows.All
import Wide.All
import OpenK.AllK
import Wide.FinOn
import HandS.ForMost
import HandS.Conv
import HandS.IsInst
import HandS.Style
import HandS.TupAny
import HandS.TupLe
import HandS.Deep
import HandS.SetKeys
import HandS.NoneIn
import KE.SortData
import KE.SortLaws
import KE.KDictCopyH
import KE.GoesEnum
import KE.GoesNew
import HandS.Head0
import HandS.Head1
import HandS.Head2
import HandS.HeadEnd
import HandS.HeadHook1
import HandS.HeadHook2
import HandS.Defaults
import KE.KStateDown
import Lean
import PySem.Challenge.RW_holdstill_k69_whole_trust
set_option Elab.async false
set_option linter.all false
set_option maxRecDepth 100000
set_option maxHeartbeats 4000000
/-! Pl: pure values over the abstract heap, a small syntax, what it asks. -/
namespace Pl
open PySem L2

abbrev Fg := PySem.W.Frag

/-- pure values: tuples are values; ref: something that can change; rol: a list that is only read -/
inductive U where
  | non | bl (b : Bool) | int (i : Int) | str (x : Str) | tup (l : List U) | ref (a : Addr) | rol (l : List U)

mutual
def U.dec : (x y : U) → Decidable (x = y)
  | .non, .non => .isTrue rfl
  | .bl a, .bl b => if h : a = b then .isTrue (by rw [h]) else .isFalse (fun e => h (by injection e))
  | .int a, .int b => if h : a = b then .isTrue (by rw [h]) else .isFalse (fun e => h (by injection e))
  | .str a, .str b => if h : a = b then .isTrue (by rw [h]) else .isFalse (fun e => h (by injection e))
  | .ref a, .ref b => if h : a = b then .isTrue (by rw [h]) else .isFalse (fun e => h (by injection e))
  | .tup a, .tup b => match U.decL a b with
    | .isTrue h => .isTrue (by rw [h])
    | .isFalse h => .isFalse (fun e => h (by injection e))
  | .rol a, .rol b => match U.decL a b with
    | .isTrue h => .isTrue (by rw [h])
    | .isFalse h => .isFalse (fun e => h (by injection e))
  | .non, .bl _ => .isFalse (fun e => nomatch e)
  | .non, .int _ => .isFalse (fun e => nomatch e)
  | .non, .str _ => .isFalse (fun e => nomatch e)
  | .non, .tup _ => .isFalse (fun e => nomatch e)
  | .non, .ref _ => .isFalse (fun e => nomatch e)
  | .non, .rol _ => .isFalse (fun e => nomatch e)
  | .bl _, .non => .isFalse (fun e => nomatch e)
  | .bl _, .int _ => .isFalse (fun e => nomatch e)
  | .bl _, .str _ => .isFalse (fun e => nomatch e)
  | .bl _, .tup _ => .isFalse (fun e => nomatch e)
  | .bl _, .ref _ => .isFalse (fun e => nomatch e)
  | .bl _, .rol _ => .isFalse (fun e => nomatch e)
  | .int _, .non => .isFalse (fun e => nomatch e)
  | .int _, .bl _ => .isFalse (fun e => nomatch e)
  | .int _, .str _ => .isFalse (fun e => nomatch e)
  | .int _, .tup _ => .isFalse (fun e => nomatch e)
  | .int _, .ref _ => .isFalse (fun e => nomatch e)
  | .int _, .rol _ => .isFalse (fun e => nomatch e)
  | .str _, .non => .isFalse (fun e => nomatch e)
  | .str _, .bl _ => .isFalse (fun e => nomatch e)
  | .str _, .int _ => .isFalse (fun e => nomatch e)
  | .str _, .tup _ => .isFalse (fun e => nomatch e)
  | .str _, .ref _ => .isFalse (fun e => nomatch e)
  | .str _, .rol _ => .isFalse (fun e => nomatch e)
  | .tup _, .non => .isFalse (fun e => nomatch e)
  | .tup _, .bl _ => .isFalse (fun e => nomatch e)
  | .tup _, .int _ => .isFalse (fun e => nomatch e)
  | .tup _, .str _ => .isFalse (fun e => nomatch e)
  | .tup _, .ref _ => .isFalse (fun e => nomatch e)
  | .tup _, .rol _ => .isFalse (fun e => nomatch e)
  | .ref _, .non => .isFalse (fun e => nomatch e)
  | .ref _, .bl _ => .isFalse (fun e => nomatch e)
  | .ref _, .int _ => .isFalse (fun e => nomatch e)
  | .ref _, .str _ => .isFalse (fun e => nomatch e)
  | .ref _, .tup _ => .isFalse (fun e => nomatch e)
  | .ref _, .rol _ => .isFalse (fun e => nomatch e)
  | .rol _, .non => .isFalse (fun e => nomatch e)
  | .rol _, .bl _ => .isFalse (fun e => nomatch e)
  | .rol _, .int _ => .isFalse (fun e => nomatch e)
  | .rol _, .str _ => .isFalse (fun e => nomatch e)
  | .rol _, .tup _ => .isFalse (fun e => nomatch e)
  | .rol _, .ref _ => .isFalse (fun e => nomatch e)
def U.decL : (x y : List U) → Decidable (x = y)
  | [], [] => .isTrue rfl
  | [], _ :: _ => .isFalse (fun e => nomatch e)
  | _ :: _, [] => .isFalse (fun e => nomatch e)
  | a :: x, b :: y => match U.dec a b with
    | .isFalse h => .isFalse (fun e => h (by injection e))
    | .isTrue h => match U.decL x y with
      | .isFalse k => .isFalse (fun e => k (by injection e))
      | .isTrue k => .isTrue (by rw [h, k])
end
instance : DecidableEq U := U.dec

/-! ### values and the heap -/
/-- a tuple that was laid -/
def Tp (K : Fg) (H : Hp) (a : Addr) (vs : List V) : Prop :=
  H a = some (.tup vs)
theorem Tp.sq {K : Fg} {H : Hp} {a : Addr} {vs : List V} (h : Tp K H a vs) : SqT K H a vs := .inl (.inl h)
/-- a list that is never written -/
def Rl (K : Fg) (H : Hp) (a : Addr) (vs : List V) : Prop :=
  (∃ o, H a = some (.frz o (.lst vs))) ∨ ∃ (o : Obj) (its : Array Value) (n : Nat), K.lookup a = some o ∧ o.cls = .type "list" ∧ o.dict = none ∧ o.data = .seq its n ∧ its.size ≤ sizeLine ∧ Vals vs its.toList
theorem Rl.sq {K : Fg} {H : Hp} {a : Addr} {vs : List V} (h : Rl K H a vs) : SqL K H a vs := h.elim (fun h => .inl (.inr h)) .inr

mutual
inductive Rel (K : Fg) (H : Hp) : V → U → Prop
  | non : Rel K H .non .non
  | bl (b : Bool) : Rel K H (.bl b) (.bl b)
  | int (i : Int) : Rel K H (.int i) (.int i)
  | str (x : Str) : Rel K H (.str x) (.str x)
  | tup {a : Addr} {vs : List V} {us : List U} : Tp K H a vs → RelL K H vs us → Rel K H (.ref a) (.tup us)
  | rol {a : Addr} {vs : List V} {us : List U} : Rl K H a vs → RelL K H vs us → Rel K H (.ref a) (.rol us)
  | ref (a : Addr) : Rel K H (.ref a) (.ref a)
inductive RelL (K : Fg) (H : Hp) : List V → List U → Prop
  | nil : RelL K H [] []
  | cons {v : V} {vs : List V} {u : U} {us : List U} : Rel K H v u → RelL K H vs us → RelL K H (v :: vs) (u :: us)
end

/-- what may change -/
inductive MO where
  | lst (us : List U)
  /-- z: walked at the moment; t: its keys are tuples -/
  | dct (z t : Bool) (ks : List (U × U))
abbrev Hm := Addr → Option MO
def um (M : Hm) (a : Addr) (o : MO) : Hm := fun b => if b = a then some o else M b
theorem um_same {M : Hm} {a : Addr} {o : MO} : um M a o a = some o := if_pos rfl
theorem um_ne {M : Hm} {a b : Addr} {o : MO} (h : b ≠ a) : um M a o b = M b := if_neg h
theorem um_um {M : Hm} {a : Addr} {o o' : MO} : um (um M a o) a o' = um M a o' := by
  funext b; unfold um; split <;> rfl
theorem um_comm {M : Hm} {a b : Addr} {o o' : MO} (h : a ≠ b) : um (um M a o) b o' = um (um M b o') a o := by
  funext c; unfold um
  by_cases h1 : c = b
  · subst h1
    rw [if_pos rfl, if_neg (fun e => h e.symm), if_pos rfl]
  · rw [if_neg h1]
    by_cases h2 : c = a
    · rw [if_pos h2, if_pos h2]
    · rw [if_neg h2, if_neg h2, if_neg h1]
theorem um_self {M : Hm} {a : Addr} {o : MO} (h : M a = some o) : um M a o = M := by
  funext b; unfold um
  by_cases e : b = a
  · rw [if_pos e, e, h]
  · rw [if_neg e]

def keyU : Key → U
  | .inl i => .int i
  | .inr x => .str x
theorem keyU_inj {a b : Key} (e : keyU a = keyU b) : a = b := by
  cases a <;> cases b <;> first | (injection e with e; rw [e]) | cases e
theorem keysU_inj : ∀ {a b : List Key}, a.map keyU = b.map keyU → a = b
  | [], [], _ => rfl
  | [], _ :: _, e => by cases e
  | _ :: _, [], e => by cases e
  | x :: xs, y :: ys, e => by
    rw [List.map_cons, List.map_cons] at e
    injection e with e1 e2
    rw [keyU_inj e1, keysU_inj e2]

/-- two rows of entries -/
def RelK (K : Fg) (H : Hp) : List (Key × V) → List (U × U) → Prop := Paired fun p q => q.1 = keyU p.1 ∧ Rel K H p.2 q.2
def RelT (K : Fg) (H : Hp) : List (List Key × V) → List (U × U) → Prop := Paired fun p q => q.1 = .tup (p.1.map keyU) ∧ Rel K H p.2 q.2
def fz (z : Bool) (o : Option HO) (u : HO) : Prop := if z = true then ∃ ob, o = some (.frz ob u) else o = some u

def OR (K : Fg) (H : Hp) (a : Addr) : MO → Prop
  | .lst us => ∃ vs, H a = some (.lst vs) ∧ RelL K H vs us
  | .dct z false ks => ∃ kvs, fz z (H a) (.dK kvs) ∧ RelK K H kvs ks
  | .dct z true ks => ∃ kvs, fz z (H a) (.dT kvs) ∧ RelT K H kvs ks
def Sim (K : Fg) (H : Hp) (M : Hm) : Prop := ∀ a o, M a = some o → OR K H a o
/-- what is not among M's things stays as it is; so does what is walked -/
structure Stp (H : Hp) (M : Hm) (H' : Hp) (M' : Hm) : Prop where
  keep : ∀ a o, H a = some o → M a = none → H' a = some o ∧ M' a = none
  lock : ∀ a t ks, M a = some (.dct true t ks) → H' a = H a ∧ (M' a = M a ∨ M' a = none)

theorem Stp.refl (H : Hp) (M : Hm) : Stp H M H M := ⟨fun _ _ h n => ⟨h, n⟩, fun _ _ _ _ => ⟨rfl, .inl rfl⟩⟩

theorem fz_some {z : Bool} {o : Option HO} {u : HO} (h : fz z o u) : ∃ x, o = some x := by
  unfold fz at h
  cases z with
  | true => obtain ⟨_, e⟩ := (show ∃ ob, o = some (.frz ob u) from h); exact ⟨_, e⟩
  | false => exact ⟨_, h⟩
theorem OR.has {K : Fg} {H : Hp} {a : Addr} {o : MO} (h : OR K H a o) : ∃ x, H a = some x := by
  cases o with
  | lst us => obtain ⟨vs, e, _⟩ := h; exact ⟨_, e⟩
  | dct z t ks =>
    cases t with
    | false => obtain ⟨kvs, e, _⟩ := h; exact fz_some e
    | true => obtain ⟨kvs, e, _⟩ := h; exact fz_some e
theorem Stp.trans {K : Fg} {H H1 H2 : Hp} {M M1 M2 : Hm} (S : Sim K H M) (a : Stp H M H1 M1) (b : Stp H1 M1 H2 M2) : Stp H M H2 M2 :=
  ⟨fun x o h n => let ⟨h1, n1⟩ := a.keep x o h n; b.keep x o h1 n1, fun x t ks e => by
    obtain ⟨e1, e2⟩ := a.lock x t ks e
    rcases e2 with e2 | e2
    · obtain ⟨f1, f2⟩ := b.lock x t ks (by rw [e2]; exact e)
      exact ⟨f1.trans e1, by rw [← e2]; exact f2⟩
    · obtain ⟨o, ho⟩ := (S x _ e).has
      obtain ⟨f1, f2⟩ := b.keep x o (by rw [e1]; exact ho) e2
      exact ⟨by rw [f1, ho], .inr f2⟩⟩
theorem Sim.fr {K : Fg} {H : Hp} {M : Hm} (S : Sim K H M) {a : Addr} (h : H a = none) : M a = none := by
  cases e : M a with
  | none => rfl
  | some o =>
    obtain ⟨x, q⟩ := (S a o e).has
    rw [h] at q
    cases q
theorem fz_tup {z : Bool} {o : Option HO} {u : HO} {vs : List V} (h : fz z o u) (hu : ∀ xs, u ≠ .tup xs) : o ≠ some (.tup vs) := fun e => by
  unfold fz at h
  cases z with
  | true =>
    obtain ⟨_, q⟩ := (show ∃ ob, o = some (.frz ob u) from h)
    rw [e] at q
    cases q
  | false =>
    have q : o = some u := h
    rw [e] at q
    cases q
    exact hu _ rfl
theorem fz_rol {z : Bool} {o : Option HO} {u : HO} {ob : Obj} {vs : List V} (h : fz z o u) (hu : ∀ xs, u ≠ .lst xs) (hf : ∀ o' x, u ≠ .frz o' x) : o ≠ some (.frz ob (.lst vs)) := fun e => by
  unfold fz at h
  cases z with
  | true =>
    obtain ⟨_, q⟩ := (show ∃ ob, o = some (.frz ob u) from h)
    rw [e] at q
    cases q
    exact hu _ rfl
  | false =>
    have q : o = some u := h
    rw [e] at q
    cases q
    exact hf _ _ rfl
theorem Sim.noTup {K : Fg} {H : Hp} {M : Hm} (S : Sim K H M) {a : Addr} {vs : List V} (h : H a = some (.tup vs)) : M a = none := by
  cases e : M a with
  | none => rfl
  | some o =>
    have q := S a o e
    cases o with
    | lst us =>
      obtain ⟨_, e2, _⟩ := q
      rw [h] at e2
      cases e2
    | dct z t ks =>
      cases t with
      | false => obtain ⟨kvs, e2, _⟩ := q; exact absurd h (fz_tup e2 fun _ x => nomatch x)
      | true => obtain ⟨kvs, e2, _⟩ := q; exact absurd h (fz_tup e2 fun _ x => nomatch x)
theorem Sim.noRol {K : Fg} {H : Hp} {M : Hm} (S : Sim K H M) {a : Addr} {ob : Obj} {vs : List V} (h : H a = some (.frz ob (.lst vs))) : M a = none := by
  cases e : M a with
  | none => rfl
  | some o =>
    have q := S a o e
    cases o with
    | lst us =>
      obtain ⟨_, e2, _⟩ := q
      rw [h] at e2
      cases e2
    | dct z t ks =>
      cases t with
      | false => obtain ⟨kvs, e2, _⟩ := q; exact absurd h (fz_rol e2 (fun _ x => nomatch x) fun _ _ x => nomatch x)
      | true => obtain ⟨kvs, e2, _⟩ := q; exact absurd h (fz_rol e2 (fun _ x => nomatch x) fun _ _ x => nomatch x)
theorem Tp.stp {K : Fg} {H H' : Hp} {M M' : Hm} (S : Sim K H M) (t : Stp H M H' M') {a : Addr} {vs : List V} (h : Tp K H a vs) : Tp K H' a vs := by
  exact (t.keep a _ h (S.noTup h)).1
theorem Rl.stp {K : Fg} {H H' : Hp} {M M' : Hm} (S : Sim K H M) (t : Stp H M H' M') {a : Addr} {vs : List V} (h : Rl K H a vs) : Rl K H' a vs := by
  rcases h with ⟨o, h⟩ | h
  · exact .inl ⟨o, (t.keep a _ h (S.noRol h)).1⟩
  · exact .inr h
mutual
theorem Rel.stp {K : Fg} {H H' : Hp} {M M' : Hm} (S : Sim K H M) (t : Stp H M H' M') {v : V} {u : U} (h : Rel K H v u) : Rel K H' v u := by
  cases h with
  | non => exact .non
  | bl b => exact .bl b
  | int i => exact .int i
  | str x => exact .str x
  | tup h1 h2 => exact .tup (h1.stp S t) (h2.stp S t)
  | rol h1 h2 => exact .rol (h1.stp S t) (h2.stp S t)
  | ref a => exact .ref a
theorem RelL.stp {K : Fg} {H H' : Hp} {M M' : Hm} (S : Sim K H M) (t : Stp H M H' M') {v : List V} {u : List U} (h : RelL K H v u) : RelL K H' v u := by
  cases h with
  | nil => exact .nil
  | cons h1 h2 => exact .cons (h1.stp S t) (h2.stp S t)
end
end Pl

set_option maxHeartbeats 4000000
/-! the syntax and what it asks -/
namespace Pl
open PySem L2

inductive Bop where | add | sub | mul | fdiv | mod | pow | shl | shr | band | bor
  deriving DecidableEq
inductive Cop where | eq | ne | lt | le | gt | ge | isin | notin
  deriving DecidableEq
/-- built-in functions and classes that are called -/
inductive Bfn where | len | list | tuple | int | abs | max | min | sorted | sum | all | any | set | str | dict | bool
  deriving DecidableEq
/-- methods of built-in types -/
inductive Mfn where | append | extend | pop | popAt | split | get1 | get2 | setdefault | index | join | insert | remove | items | pop2 | isalpha | islower | replace
  deriving DecidableEq
/-- targets: one name, a flat tuple of names -/
inductive Tg where | one (i : Nat) | many (is : List Nat)
  deriving DecidableEq
def Tg.slots : Tg → List Nat
  | .one i => [i]
  | .many is => is

inductive E where
  | var (i : Nat) | int (i : Int) | str (x : Str) | bl (b : Bool) | non
  | nil | cons (a b : E)
  | tup (es : E) | lst (es : E) | dnew (t : Bool)
  | bin (op : Bop) (a b : E) | neg (a : E)
  | cmp (op : Cop) (a b : E) | chain (o1 o2 : Cop) (a b c : E)
  | isN (a : E) | notN (a : E) | isB (neg b : Bool) (a : E)
  | ands (es : E) | ors (es : E) | not (a : E) | ite (c a b : E)
  | ix (a i : E) | slice (a lo hi : E)
  | call (f : Nat) (es : E) | blt (f : Bfn) (es : E) | mth (m : Mfn) (o es : E) | isinst (a : E) (t : String)
  | comp (own : List (Str × Nat)) (tg : Tg) (it c elt : E)
  | iSeq (a : E) | iRange (a : E) | iRange2 (a b : E) | iEnum (a : E) | iKeys (a : E)
  deriving DecidableEq

inductive S where
  | skip | seq (a b : S)
  | asg (i : Nat) (e : E) | asgT (is : List Nat) (e : E) | par (i j : Nat) (a b : E)
  | setIx (o i e : E) | augV (i : Nat) (op : Bop) (e : E) | augIx (o i : E) (op : Bop) (e : E)
  | ifs (c : E) (a b : S) | for_ (tg : Tg) (it : E) (b : S) | whl (c : E) (b : S)
  | ret (e : E) | retN | brk | cnt | expr (e : E) | nvr
  deriving DecidableEq

abbrev SU := List (Option U)
abbrev QU := U → Hm → Prop
abbrev WE := SU → Hm → QU → Prop
abbrev WT := SU → Hm → (Bool → Hm → Prop) → Prop
abbrev WL := SU → Hm → (List U → Hm → Prop) → Prop
abbrev WO := SU → Hm → (Option Int → Hm → Prop) → Prop
/-- what is walked: its items, what must stay, how an exit is reached -/
abbrev WI := SU → Hm → (List U → (Hm → Prop) → ((Hm → Prop) → Hm → Prop) → Hm → Prop) → Prop

def LIM : Nat := 100000

/-! ### data -/
def okS (x : Str) : Bool := x.cps.all (· < 0x110000)
def U.ok : Nat → U → Bool
  | _, .non => true
  | _, .int _ => true
  | _, .str x => okS x
  | n + 1, .tup l => l.all (U.ok n)
  | _, _ => false
def okU (x : U) : Bool := x.ok 60
def okL (l : List U) : Bool := l.all (U.ok 59)

def eqW (x y : U) (M : Hm) (Q : Bool → Hm → Prop) : Prop := match x, y with
  | .bl a, .bl b => Q (a == b) M
  | .int a, .int b => Q (decide (a = b)) M
  | .str a, .str b => Q (decide (a = b)) M
  | .ref p, .ref q => ∃ us ws, M p = some (.lst us) ∧ M q = some (.lst ws) ∧ okL us = true ∧ okL ws = true ∧ Q (decide (us = ws)) M
  | x, y => okU x = true ∧ okU y = true ∧ Q (decide (x = y)) M

def dfind (ks : List (U × U)) (k : U) : Option U := (ks.find? fun p => decide (p.1 = k)).map (·.2)
def dput (ks : List (U × U)) (k v : U) : List (U × U) := if (dfind ks k).isSome = true then ks.map fun p => if p.1 = k then (p.1, v) else p else ks ++ [(k, v)]
/-- a key of ints and texts | of tuples of such -/
def isKey : U → Bool
  | .int _ => true
  | .str _ => true
  | _ => false
def isKeyT : U → Bool
  | .tup l => l.all isKey
  | _ => false
def keyFor (t : Bool) (k : U) : Bool := match t with
  | true => isKeyT k
  | false => isKey k

def inW (neg : Bool) (x y : U) (M : Hm) (Q : Bool → Hm → Prop) : Prop := match y with
  | .tup l => okU x = true ∧ okL l = true ∧ (l.all isKey = true ∧ isKey x = true) ∧ Q (if neg then !decide (x ∈ l) else decide (x ∈ l)) M
  | .ref p => (∃ us, M p = some (.lst us) ∧ okU x = true ∧ okL us = true ∧ Q (if neg then !decide (x ∈ us) else decide (x ∈ us)) M) ∨
      ∃ z t ks, M p = some (.dct z t ks) ∧ keyFor t x = true ∧ Q (if neg then !(dfind ks x).isSome else (dfind ks x).isSome) M
  | _ => False

def cmpW (op : Cop) (x y : U) (M : Hm) (Q : Bool → Hm → Prop) : Prop := match op with
  | .eq => eqW x y M Q
  | .ne => eqW x y M fun b M => Q (!b) M
  | .lt => (match x, y with | .int i, .int j => Q (decide (i < j)) M | _, _ => False)
  | .le => (match x, y with | .int i, .int j => Q (decide (i ≤ j)) M | _, _ => False)
  | .gt => (match x, y with | .int i, .int j => Q (decide (j < i)) M | _, _ => False)
  | .ge => (match x, y with | .int i, .int j => Q (decide (j ≤ i)) M | _, _ => False)
  | .isin => inW false x y M Q
  | .notin => inW true x y M Q

def binW (op : Bop) (x y : U) (M : Hm) (Q : QU) : Prop := match op, x, y with
  | .add, .int i, .int j => Q (.int (i + j)) M
  | .sub, .int i, .int j => Q (.int (i - j)) M
  | .mul, .int i, .int j => CMul i j ∧ Q (.int (i * j)) M
  | .fdiv, .int i, .int j => CDiv i j ∧ Q (.int (i / j)) M
  | .mod, .int i, .int j => 0 < j ∧ Q (.int (i % j)) M
  | .pow, .int i, .int j => CPow i j ∧ Q (.int (i ^ j.toNat)) M
  | .shl, .int i, .int j => CPow i j ∧ Q (.int (i * 2 ^ j.toNat)) M
  | .shr, .int i, .int j => 0 ≤ j ∧ Q (.int (i / 2 ^ j.toNat)) M
  | .band, .int i, .int j => Q (.int (Builtin.bitAnd i j)) M
  | .bor, .int i, .int j => Q (.int (Builtin.bitOr i j)) M
  | .add, .str a, .str b => a.length + b.length ≤ LIM ∧ Q (.str (a ++ b)) M
  | .add, .tup a, .tup b => a.length + b.length ≤ LIM ∧ Q (.tup (a ++ b)) M
  | .add, .ref p, .ref q => ∃ us ws, M p = some (.lst us) ∧ M q = some (.lst ws) ∧ us.length + ws.length ≤ LIM ∧ ∀ a, M a = none → Q (.ref a) (um M a (.lst (us ++ ws)))
  | _, _, _ => False

def truW (x : U) (M : Hm) (Q : Bool → Hm → Prop) : Prop := match x with
  | .bl b => Q b M
  | .int i => Q (i != 0) M
  | .str s => s.length ≤ LIM ∧ Q (s.length != 0) M
  | .non => Q false M
  | .tup l => Q (!l.isEmpty) M
  | .ref p => (∃ us, M p = some (.lst us) ∧ Q (!us.isEmpty) M) ∨ ∃ ks, M p = some (.dct false false ks) ∧ Q (!ks.isEmpty) M
  | .rol _ => False

def ixW (x i : U) (M : Hm) (Q : QU) : Prop := match x with
  | .tup l => ∃ j v, i = .int j ∧ atI l j = some v ∧ Q v M
  | .ref p => (∃ us j v, M p = some (.lst us) ∧ i = .int j ∧ atI us j = some v ∧ Q v M) ∨ ∃ z t ks v, M p = some (.dct z t ks) ∧ keyFor t i = true ∧ dfind ks i = some v ∧ Q v M
  | .str z => ∃ j c, i = .int j ∧ z.length ≤ LIM ∧ atI z.cps.toList j = some c ∧ Q (.str ⟨#[c]⟩) M
  | _ => False
/-- what an augmented store reads -/
def getW (x i : U) (M : Hm) (Q : QU) : Prop := match x with
  | .ref p => (∃ us j v, M p = some (.lst us) ∧ i = .int j ∧ atI us j = some v ∧ Q v M) ∨ ∃ z t ks v, M p = some (.dct z t ks) ∧ keyFor t i = true ∧ dfind ks i = some v ∧ Q v M
  | _ => False
def cutU {α : Type} (xs : List α) (lo hi : Option Int) : List α := (xs.drop (HT.sIx xs.length 0 lo)).take (HT.sIx xs.length xs.length hi - HT.sIx xs.length 0 lo)
def sliceW (x : U) (lo hi : Option Int) (M : Hm) (Q : QU) : Prop := match x with
  | .tup l => Q (.tup (cutU l lo hi)) M
  | .ref p => ∃ us, M p = some (.lst us) ∧ ∀ a, M a = none → Q (.ref a) (um M a (.lst (cutU us lo hi)))
  | _ => False
def setW (x i v : U) (M : Hm) (Q : Hm → Prop) : Prop := match x with
  | .ref p => (∃ us j k, M p = some (.lst us) ∧ i = .int j ∧ ixN us.length j = some k ∧ Q (um M p (.lst (us.set k v)))) ∨
      ∃ t ks, M p = some (.dct false t ks) ∧ keyFor t i = true ∧ ks.length < LIM ∧ Q (um M p (.dct false t (dput ks i v)))
  | _ => False

mutual
def pd : U → PyData
  | .non => .none
  | .bl b => .bool b
  | .int i => .int i
  | .str x => .str x
  | .tup l => .tuple (pdL l)
  | .ref _ => .none
  | .rol _ => .none
def pdL : List U → List PyData
  | [] => []
  | x :: xs => pd x :: pdL xs
end
theorem pdL_map : ∀ l : List U, pdL l = l.map pd
  | [] => rfl
  | x :: xs => by rw [pdL, pdL_map xs]; rfl
/-- what can be put in order -/
def sortOk (us : List U) : Prop := okL us = true ∧ W.AllAlike (us.map pd) ∧ W.Sortable (us.map pd) ∧ us.length ≤ LIM
def sortU (us : List U) : List U := us.mergeSort (W.dataLe false pd)
def bltW (f : Bfn) (xs : List U) (M : Hm) (Q : QU) : Prop := match f, xs with
  | .len, [.tup l] => Q (.int l.length) M
  | .len, [.str s] => s.length ≤ LIM ∧ Q (.int s.length) M
  | .len, [.ref p] => (∃ us, M p = some (.lst us) ∧ Q (.int us.length) M) ∨ ∃ ks, M p = some (.dct false false ks) ∧ Q (.int ks.length) M
  | .list, [.tup l] => ∀ a, M a = none → Q (.ref a) (um M a (.lst l))
  | .list, [.ref p] => (∃ us, M p = some (.lst us) ∧ ∀ a, M a = none → Q (.ref a) (um M a (.lst us))) ∨
      ∃ ks, M p = some (.dct false false ks) ∧ ∀ a, M a = none → Q (.ref a) (um M a (.lst (ks.map (·.1))))
  | .tuple, [.tup l] => Q (.tup l) M
  | .tuple, [.ref p] => ∃ us, M p = some (.lst us) ∧ Q (.tup us) M
  | .int, [.int i] => Q (.int i) M
  | .int, [.bl b] => Q (.int (if b then 1 else 0)) M
  | .abs, [.int i] => Q (.int (if i < 0 then -i else i)) M
  | .max, [.int i, .int j] => Q (.int (if j > i then j else i)) M
  | .sorted, [.ref p] => (∃ us, M p = some (.lst us) ∧ sortOk us ∧ ∀ a, M a = none → Q (.ref a) (um M a (.lst (sortU us)))) ∨ ∃ t ks, M p = some (.dct false t ks) ∧ sortOk (ks.map (·.1)) ∧ ∀ a, M a = none → Q (.ref a) (um M a (.lst (sortU (ks.map (·.1)))))
  | .min, [.int i, .int j] => Q (.int (if j < i then j else i)) M
  | _, _ => False

def mthW (m : Mfn) (o : U) (xs : List U) (M : Hm) (Q : QU) : Prop := match m, o, xs with
  | .append, .ref p, [x] => ∃ us, M p = some (.lst us) ∧ us.length < LIM ∧ Q .non (um M p (.lst (us ++ [x])))
  | .extend, .ref p, [.ref q] => ∃ us ws, M p = some (.lst us) ∧ M q = some (.lst ws) ∧ us.length + ws.length ≤ LIM ∧ Q .non (um M p (.lst (us ++ ws)))
  | .pop, .ref p, [] => ∃ us x, M p = some (.lst us) ∧ us[us.length - 1]? = some x ∧ Q x (um M p (.lst us.dropLast))
  | .popAt, .ref p, [.int i] => ∃ us k x, M p = some (.lst us) ∧ us.length ≤ LIM ∧ ixN us.length i = some k ∧ us[k]? = some x ∧ Q x (um M p (.lst (us.eraseIdx k)))
  | .split, .str a, [.str b] => (b.length == 0) = false ∧ a.length + 2 ≤ LIM ∧ ∀ p, M p = none → Q (.ref p) (um M p (.lst ((Txt.split a b).map U.str)))
  | _, _, _ => False
/-- the receiver is of the method's type -/
def rcvW (m : Mfn) (x : U) (M : Hm) : Prop := match m with
  | .append | .extend | .pop | .popAt => ∃ p us, x = .ref p ∧ M p = some (.lst us)
  | .split => ∃ s, x = .str s
  | _ => False
def isTyW (x : U) (t : String) (M : Hm) (Q : Bool → Hm → Prop) : Prop := match x with
  | .non => Q (t == "NoneType") M
  | .bl _ => Q (t == "bool" || t == "int") M
  | .int _ => Q (t == "int") M
  | .str _ => Q (t == "str") M
  | .tup _ => Q (t == "tuple") M
  | .ref p => ∃ us, M p = some (.lst us) ∧ Q (t == "list") M
  | .rol _ => False

/-! ### loops -/
/-- the slots of these forgotten -/
def wipU (σ : SU) : List Nat → SU
  | [] => σ
  | v :: vs => (wipU σ vs).set v none
def setAll : List Nat → List U → SU → Option SU
  | [], [], σ => some σ
  | i :: is, u :: us, σ => setAll is us (σ.set i (some u))
  | _, _, _ => none
def tgW (tg : Tg) (x : U) (σ : SU) (Q : SU → Prop) : Prop := match tg with
  | .one i => Q (σ.set i (some x))
  | .many is => ∃ l σ', x = .tup l ∧ setAll is l σ = some σ' ∧ Q σ'
def forL (step : U → (SU → Hm → Prop) → SU → Hm → Prop) (g : Hm → Prop) (fin : SU → Hm → Prop) : List U → SU → Hm → Prop
  | [], σ, M => fin σ M
  | x :: xs, σ, M => step x (fun σ' M' => g M' ∧ forL step g fin xs σ' M') σ M
def compL (step : U → (Option U → Hm → Prop) → Hm → Prop) (g : Hm → Prop) (fin : List U → Hm → Prop) : List U → List U → Hm → Prop
  | [], acc, M => fin acc M
  | x :: xs, acc, M => step x (fun o M' => g M' ∧ (o.isSome = true → acc.length < LIM) ∧ compL step g fin xs (acc ++ o.toList) M') M

/-! ### expressions -/
structure Wp where
  e : WE
  t : WT
  l : WL
  /-- a row of conditions: the tests by and, by or; the values by and, by or -/
  ta : WT
  to : WT
  va : WE
  vo : WE
  i : WI
def fE : WE := fun _ _ _ => False
def fT : WT := fun _ _ _ => False
def fI : WI := fun _ _ _ => False
/-- an expression whose test is its value's truth -/
def Wp.ofE (f : WE) : Wp := ⟨f, fun σ M Q => f σ M fun x M1 => truW x M1 Q, fun _ _ _ => False, fT, fT, fE, fE, fI⟩
/-- a comparison and its like: the value a bool -/
def Wp.ofB (f : WT) : Wp := ⟨fun σ M Q => f σ M fun b M1 => Q (.bl b) M1, f, fun _ _ _ => False, fT, fT, fE, fE, fI⟩
/-- never a test -/
def Wp.noT (f : WE) : Wp := ⟨f, fT, fun _ _ _ => False, fT, fT, fE, fE, fI⟩
def Wp.ofI (f : WI) : Wp := ⟨fE, fT, fun _ _ _ => False, fT, fT, fE, fE, f⟩
def bW (f : WE) (σ : SU) (M : Hm) (Q : Bool → Hm → Prop) : Prop := f σ M fun x M1 => ∃ b, x = .bl b ∧ Q b M1
def isNil : E → Bool
  | .nil => true
  | _ => false
def partW (e : E) (f : WE) : WO := fun σ M Q => if isNil e = true then Q none M else f σ M fun x M1 => ∃ i, x = .int i ∧ Q (some i) M1

/-- how the callees keep their promises -/
abbrev CE := Nat → List U → Hm → QU → Prop

def seqI (x : U) (M : Hm) (Q : List U → (Hm → Prop) → ((Hm → Prop) → Hm → Prop) → Hm → Prop) : Prop := match x with
  | .tup l => Q l (fun _ => True) (fun P => P) M
  | .rol l => Q l (fun _ => True) (fun P => P) M
  | .ref p => ∃ us, M p = some (.lst us) ∧ Q us (fun M' => M' p = some (.lst us)) (fun P => P) M
  | _ => False
def enumU (l : List U) : List U := l.zipIdx.map fun p => .tup [.int (p.2 : Nat), p.1]
def rngU (a b : Int) : List U := (List.range (b - a).toNat).map fun i => .int (a + (i : Nat))

/-- a comprehension over what is walked -/
def compW (fi : WI) (tg : Tg) (fc : WT) (fe : WE) : WE := fun σ M Q => fi σ M fun items g ex M1 =>
  compL (fun x k M => tgW tg x (wipU σ tg.slots) fun σ2 => fc σ2 M fun b M2 => if b = true then fe σ2 M2 fun y M3 => k (some y) M3 else k none M2)
    g (fun acc M => ex (fun M => ∀ p, M p = none → Q (.ref p) (um M p (.lst acc))) M) items [] M1

def w (C : CE) : E → Wp
  | .var i => .ofE fun σ M Q => ∃ u, σ[i]? = some (some u) ∧ Q u M
  | .int i => .ofE fun _ M Q => Q (.int i) M
  | .str x => .ofE fun _ M Q => Q (.str x) M
  | .bl b => .ofE fun _ M Q => Q (.bl b) M
  | .non => .ofE fun _ M Q => Q .non M
  | .nil => ⟨fE, fT, fun _ M Q => Q [] M, fun _ M Q => Q true M, fun _ M Q => Q false M, fE, fE, fI⟩
  | .cons a b => ⟨fE, fT, fun σ M Q => (w C a).e σ M fun x M1 => (w C b).l σ M1 fun xs M2 => Q (x :: xs) M2,
      if isNil b = true then (w C a).t else fun σ M Q => (w C a).t σ M fun c M1 => if c = true then (w C b).ta σ M1 Q else Q false M1,
      if isNil b = true then (w C a).t else fun σ M Q => (w C a).t σ M fun c M1 => if c = true then Q true M1 else (w C b).to σ M1 Q,
      if isNil b = true then (w C a).e else fun σ M Q => bW (w C a).e σ M fun c M1 => if c = true then (w C b).va σ M1 Q else Q (.bl false) M1,
      if isNil b = true then (w C a).e else fun σ M Q => bW (w C a).e σ M fun c M1 => if c = true then Q (.bl true) M1 else (w C b).vo σ M1 Q, fI⟩
  | .tup es => .ofE fun σ M Q => (w C es).l σ M fun xs M1 => xs.length ≤ LIM ∧ Q (.tup xs) M1
  | .lst es => .ofE fun σ M Q => (w C es).l σ M fun xs M1 => xs.length ≤ LIM ∧ ∀ p, M1 p = none → Q (.ref p) (um M1 p (.lst xs))
  | .dnew t => .ofE fun _ M Q => ∀ p, M p = none → Q (.ref p) (um M p (.dct false t []))
  | .bin op a b => .ofE fun σ M Q => (w C a).e σ M fun x M1 => (w C b).e σ M1 fun y M2 => binW op x y M2 Q
  | .neg a => .ofE fun σ M Q => (w C a).e σ M fun x M1 => ∃ i, x = .int i ∧ Q (.int (-i)) M1
  | .cmp op a b => .ofB fun σ M Q => (w C a).e σ M fun x M1 => (w C b).e σ M1 fun y M2 => cmpW op x y M2 Q
  | .chain o1 o2 a b c => .ofB fun σ M Q => (w C a).e σ M fun x M1 => (w C b).e σ M1 fun y M2 => cmpW o1 x y M2 fun k M3 =>
      if k = true then (w C c).e σ M3 fun z M4 => cmpW o2 y z M4 Q else Q false M3
  | .isN a => .ofB fun σ M Q => (w C a).e σ M fun x M1 => Q (decide (x = .non)) M1
  | .notN a => .ofB fun σ M Q => (w C a).e σ M fun x M1 => Q (!decide (x = .non)) M1
  | .isB neg b a => .ofB fun σ M Q => (w C a).e σ M fun x M1 => ∃ c, x = .bl c ∧ Q (if neg then !decide (c = b) else decide (c = b)) M1
  | .ands es => ⟨(w C es).va, (w C es).ta, fun _ _ _ => False, fT, fT, fE, fE, fI⟩
  | .ors es => ⟨(w C es).vo, (w C es).to, fun _ _ _ => False, fT, fT, fE, fE, fI⟩
  | .not a => ⟨fun σ M Q => bW (w C a).e σ M fun b M1 => Q (.bl (!b)) M1, fun σ M Q => (w C a).t σ M fun b M1 => Q (!b) M1, fun _ _ _ => False, fT, fT, fE, fE, fI⟩
  | .ite c a b => .noT fun σ M Q => (w C c).t σ M fun k M1 => if k = true then (w C a).e σ M1 Q else (w C b).e σ M1 Q
  | .ix a i => .ofE fun σ M Q => (w C a).e σ M fun x M1 => (w C i).e σ M1 fun y M2 => ixW x y M2 Q
  | .slice a lo hi => .ofE fun σ M Q => (w C a).e σ M fun x M1 => partW lo (w C lo).e σ M1 fun l M2 => partW hi (w C hi).e σ M2 fun h M3 => sliceW x l h M3 Q
  | .call f es => .ofE fun σ M Q => (w C es).l σ M fun xs M1 => C f xs M1 Q
  | .blt f es => .ofE fun σ M Q => (w C es).l σ M fun xs M1 => bltW f xs M1 Q
  | .mth m o es => .ofE fun σ M Q => (w C o).e σ M fun x M1 => rcvW m x M1 ∧ (w C es).l σ M1 fun xs M2 => mthW m x xs M2 Q
  | .isinst a t => .ofB fun σ M Q => (w C a).e σ M fun x M1 => isTyW x t M1 Q
  | .comp _ tg it c elt => .ofE (compW (w C it).i tg (if isNil c = true then fun _ M Q => Q true M else (w C c).t) (w C elt).e)
  | .iSeq a => .ofI fun σ M Q => (w C a).e σ M fun x M1 => seqI x M1 Q
  | .iRange a => .ofI fun σ M Q => (w C a).e σ M fun x M1 => ∃ n, x = .int n ∧ n ≤ LIM ∧ -LIM ≤ n ∧ Q (rngU 0 n) (fun _ => True) (fun P => P) M1
  | .iRange2 a b => .ofI fun σ M Q => (w C a).e σ M fun x M1 => (w C b).e σ M1 fun y M2 => ∃ m n, x = .int m ∧ y = .int n ∧ -LIM ≤ m ∧ m ≤ LIM ∧ n ≤ LIM ∧ -LIM ≤ n ∧ Q (rngU m n) (fun _ => True) (fun P => P) M2
  | .iEnum a => .ofI fun σ M Q => (w C a).e σ M fun x M1 => seqI x M1 fun us g ex M2 => Q (enumU us) g ex M2
  | .iKeys a => .ofI fun σ M Q => ∃ i d t ks, a = .var i ∧ σ[i]? = some (some (.ref d)) ∧ M d = some (.dct false t ks) ∧
      Q (ks.map (·.1)) (fun M' => M' d = some (.dct true t ks)) (fun P M' => M' d = some (.dct true t ks) ∧ P (um M' d (.dct false t ks))) (um M d (.dct true t ks))

/-! ### statements -/
structure EndsU where
  nx : SU → Hm → Prop
  rt : QU
  bk : SU → Hm → Prop := fun _ _ => False
  ct : SU → Hm → Prop := fun _ _ => False

def wS (C : CE) : S → EndsU → SU → Hm → Prop
  | .skip, D, σ, M => D.nx σ M
  | .seq a b, D, σ, M => wS C a { D with nx := wS C b D } σ M
  | .asg i e, D, σ, M => (w C e).e σ M fun x M1 => D.nx (σ.set i (some x)) M1
  | .asgT is e, D, σ, M => (w C e).e σ M fun x M1 => ∃ l σ', x = .tup l ∧ setAll is l σ = some σ' ∧ D.nx σ' M1
  | .par i j a b, D, σ, M => (w C a).e σ M fun x M1 => (w C b).e σ M1 fun y M2 => D.nx ((σ.set i (some x)).set j (some y)) M2
  | .setIx o i e, D, σ, M => (w C e).e σ M fun v M1 => (w C o).e σ M1 fun x M2 => (w C i).e σ M2 fun y M3 => setW x y v M3 (D.nx σ)
  | .augV i op e, D, σ, M => ∃ x, σ[i]? = some (some x) ∧ (w C e).e σ M fun y M1 => ∃ a b, x = .int a ∧ y = .int b ∧ binW op x y M1 fun z M2 => D.nx (σ.set i (some z)) M2
  | .augIx o i op e, D, σ, M => (w C o).e σ M fun x M1 => (w C i).e σ M1 fun y M2 => getW x y M2 fun v M3 => (w C e).e σ M3 fun z M4 => ∃ a b, v = .int a ∧ z = .int b ∧ binW op v z M4 fun r M5 => setW x y r M5 (D.nx σ)
  | .ifs c a b, D, σ, M => (w C c).t σ M fun k M1 => if k = true then wS C a D σ M1 else wS C b D σ M1
  | .for_ tg it b, D, σ, M => (w C it).i σ M fun items g ex M1 =>
      forL (fun x nx σ M => tgW tg x σ fun σ2 => wS C b ⟨nx, fun u M => ex (D.rt u) M, fun σ M => ex (D.nx σ) M, nx⟩ σ2 M) g (fun σ M => ex (D.nx σ) M) items σ M1
  | .whl c b, D, σ, M => ∃ W : Nat → SU → Hm → Prop, (∃ m, W m σ M) ∧ ∀ m σ M, W m σ M → (w C c).t σ M fun k M1 =>
      if k = true then wS C b ⟨fun σ' M' => ∃ m', m' < m ∧ W m' σ' M', D.rt, D.nx, fun σ' M' => ∃ m', m' < m ∧ W m' σ' M'⟩ σ M1 else D.nx σ M1
  | .ret e, D, σ, M => (w C e).e σ M D.rt
  | .retN, D, _, M => D.rt .non M
  | .brk, D, σ, M => D.bk σ M
  | .cnt, D, σ, M => D.ct σ M
  | .expr e, D, σ, M => (w C e).e σ M fun _ M1 => D.nx σ M1
  | .nvr, _, _, _ => False

/-- one def: its name, its parameters, all its names by slot, its body -/
structure Df where
  name : Str
  ps : List Str
  N : List Str
  b : S
def startU (n : Nat) (us : List U) : SU := us.map some ++ List.replicate (n - us.length) none
/-- what is forgotten does not harm -/
def Sub (M' M : Hm) : Prop := ∀ a o, M' a = some o → M a = some o
/-- the promises at depth k -/
def Cs (T : List Df) : Nat → CE
  | 0 => fun _ _ _ _ => False
  | k + 1 => fun f us M Q => ∃ d, T[f]? = some d ∧ us.length = d.ps.length ∧
      wS (Cs T k) d.b ⟨fun _ M' => ∃ M'', Sub M'' M' ∧ Q .non M'', fun u M' => ∃ M'', Sub M'' M' ∧ Q u M'', fun _ _ => False, fun _ _ => False⟩ (startU d.N.length us) M
end Pl

set_option maxHeartbeats 4000000
/-! operations by values keep what they are said to do -/
namespace Pl
open PySem L2
theorem lim_line : LIM < sizeLine := by rw [sizeLine_eq]; decide
theorem le_line {n : Nat} (h : n ≤ LIM) : n ≤ sizeLine := Nat.le_trans h (Nat.le_of_lt lim_line)
theorem lt_line {n : Nat} (h : n < LIM) : n < sizeLine := Nat.lt_trans h lim_line

section
variable {K : Fg} {H H' : Hp} {M M' : Hm}
theorem RelL.length {vs : List V} {us : List U} (h : RelL K H vs us) : vs.length = us.length := by
  induction vs generalizing us with
  | nil => cases h; rfl
  | cons v vs ih => cases h with
    | cons a b => rw [List.length_cons, List.length_cons, ih b]
theorem RelL.get {vs : List V} {us : List U} {i : Nat} {u : U} (h : RelL K H vs us) (e : us[i]? = some u) : ∃ v, vs[i]? = some v ∧ Rel K H v u := by
  induction vs generalizing us i with
  | nil => cases h; simp at e
  | cons v vs ih => cases h with
    | cons a b => cases i with
      | zero => simp at e; subst e; exact ⟨v, rfl, a⟩
      | succ i => obtain ⟨x, q, r⟩ := ih b (by simpa using e); exact ⟨x, by simpa using q, r⟩
theorem RelL.getV {vs : List V} {us : List U} {i : Nat} {v : V} (h : RelL K H vs us) (e : vs[i]? = some v) : ∃ u, us[i]? = some u ∧ Rel K H v u := by
  induction vs generalizing us i with
  | nil => simp at e
  | cons y vs ih => cases h with
    | cons a b => cases i with
      | zero => simp at e; subst e; exact ⟨_, rfl, a⟩
      | succ i => obtain ⟨x, q, r⟩ := ih b (by simpa using e); exact ⟨x, by simpa using q, r⟩
theorem RelL.append {vs ws : List V} {us xs : List U} (h : RelL K H vs us) (k : RelL K H ws xs) : RelL K H (vs ++ ws) (us ++ xs) := by
  induction vs generalizing us with
  | nil => cases h; exact k
  | cons v vs ih => cases h with
    | cons a b => exact .cons a (ih b)
theorem RelL.take {vs : List V} {us : List U} (n : Nat) (h : RelL K H vs us) : RelL K H (vs.take n) (us.take n) := by
  induction n generalizing vs us with
  | zero => exact .nil
  | succ n ih => cases h with
    | nil => exact .nil
    | cons a b => exact .cons a (ih b)
theorem RelL.drop {vs : List V} {us : List U} (n : Nat) (h : RelL K H vs us) : RelL K H (vs.drop n) (us.drop n) := by
  induction n generalizing vs us with
  | zero => exact h
  | succ n ih => cases h with
    | nil => exact .nil
    | cons a b => exact ih b
theorem RelL.set {vs : List V} {us : List U} {v : V} {u : U} (k : Nat) (r : Rel K H v u) (h : RelL K H vs us) : RelL K H (vs.set k v) (us.set k u) := by
  induction k generalizing vs us with
  | zero => cases h with
    | nil => exact .nil
    | cons a b => exact .cons r b
  | succ n ih => cases h with
    | nil => exact .nil
    | cons a b => exact .cons a (ih b)
theorem RelL.eraseIdx {vs : List V} {us : List U} (k : Nat) (h : RelL K H vs us) : RelL K H (vs.eraseIdx k) (us.eraseIdx k) := by
  induction k generalizing vs us with
  | zero => cases h with
    | nil => exact .nil
    | cons a b => exact b
  | succ n ih => cases h with
    | nil => exact .nil
    | cons a b => exact .cons a (ih b)
theorem RelL.dropLast {vs : List V} {us : List U} (h : RelL K H vs us) : RelL K H vs.dropLast us.dropLast := by
  rw [List.dropLast_eq_take, List.dropLast_eq_take, h.length]
  exact h.take _
theorem RelL.strs : ∀ xs : List Str, RelL K H (xs.map V.str) (xs.map U.str)
  | [] => .nil
  | x :: xs => .cons (.str x) (RelL.strs xs)
theorem RelL.nil_iff {vs : List V} {us : List U} (h : RelL K H vs us) : vs = [] ↔ us = [] := by
  cases h <;> simp
theorem RelL.isEmpty {vs : List V} {us : List U} (h : RelL K H vs us) : vs.isEmpty = us.isEmpty := by
  cases h <;> rfl

/-! ### how the heap grows -/
theorem Paired.mapR {α β : Type} {F G : α → β → Prop} {xs : List α} {ys : List β} (h : Paired F xs ys) (k : ∀ a b, F a b → G a b) : Paired G xs ys := by
  induction h with
  | nil => exact .nil
  | cons a _ ih => exact .cons (k _ _ a) ih
theorem OR.stp (S : Sim K H M) (t : Stp H M H' M') {a : Addr} {o : MO} (e : H' a = H a) (h : OR K H a o) : OR K H' a o := by
  cases o with
  | lst us =>
    obtain ⟨vs, q, r⟩ := h
    exact ⟨vs, by rw [e]; exact q, r.stp S t⟩
  | dct z tt ks =>
    cases tt with
    | false => obtain ⟨kvs, q, r⟩ := h; exact ⟨kvs, by rw [e]; exact q, Paired.mapR r fun p q x => ⟨x.1, x.2.stp S t⟩⟩
    | true => obtain ⟨kvs, q, r⟩ := h; exact ⟨kvs, by rw [e]; exact q, Paired.mapR r fun p q x => ⟨x.1, x.2.stp S t⟩⟩
theorem Sim.to (S : Sim K H M) (t : Stp H M H' M') (h : ∀ a o, M' a = some o → (M a = some o ∧ H' a = H a) ∨ OR K H' a o) : Sim K H' M' := fun a o e => by
  rcases h a o e with ⟨e1, e2⟩ | q
  · exact (S a o e1).stp S t e2
  · exact q
theorem Stp.new {p : Addr} {o : HO} {m : MO} (S : Sim K H M) (hp : H p = none) : Stp H M (upd H p o) (um M p m) :=
  ⟨fun a x h n =>
    have ne : a ≠ p := ne_of_none h hp
    ⟨by rw [upd_ne ne]; exact h, by rw [um_ne ne]; exact n⟩, fun a t ks e => by
    obtain ⟨x, h⟩ := (S a _ e).has
    have ne : a ≠ p := ne_of_none h hp
    exact ⟨upd_ne ne, .inl (um_ne ne)⟩⟩
theorem Stp.newT {p : Addr} {o : HO} (S : Sim K H M) (hp : H p = none) : Stp H M (upd H p o) M :=
  ⟨fun a x h n => ⟨by rw [upd_ne (ne_of_none h hp)]; exact h, n⟩, fun a t ks e => by
    obtain ⟨x, h⟩ := (S a _ e).has
    exact ⟨upd_ne (ne_of_none h hp), .inl rfl⟩⟩
def unlocked : MO → Bool
  | .dct true _ _ => false
  | _ => true
theorem Stp.mut {p : Addr} {o : HO} {m m' : MO} (hp : M p = some m') (hu : unlocked m' = true := by rfl) : Stp H M (upd H p o) (um M p m) :=
  ⟨fun a x h n =>
    have ne : a ≠ p := fun e => by rw [e, hp] at n; cases n
    ⟨by rw [upd_ne ne]; exact h, by rw [um_ne ne]; exact n⟩, fun a t ks e => by
    have ne : a ≠ p := fun z => by
      rw [z, hp] at e
      cases e
      cases hu
    exact ⟨upd_ne ne, .inl (um_ne ne)⟩⟩
theorem Sim.new (S : Sim K H M) {p : Addr} {o : HO} {m : MO} (hp : H p = none) (new : OR K (upd H p o) p m) : Sim K (upd H p o) (um M p m) :=
  S.to (Stp.new S hp) fun a x e => by
    by_cases h : a = p
    · subst h
      rw [um_same] at e
      cases e
      exact .inr new
    · rw [um_ne h] at e
      exact .inl ⟨e, upd_ne h⟩
theorem Sim.newT (S : Sim K H M) {p : Addr} {vs : List V} (hp : H p = none) : Sim K (upd H p (.tup vs)) M :=
  S.to (Stp.newT S hp) fun a x e => .inl ⟨e, upd_ne fun z => by
    have q := S.fr hp
    rw [z, q] at e
    cases e⟩
theorem Sim.mut (S : Sim K H M) {p : Addr} {o : HO} {m m' : MO} (hp : M p = some m') (hu : unlocked m' = true) (new : OR K (upd H p o) p m) : Sim K (upd H p o) (um M p m) :=
  S.to (Stp.mut hp hu) fun a x e => by
    by_cases h : a = p
    · subst h
      rw [um_same] at e
      cases e
      exact .inr new
    · rw [um_ne h] at e
      exact .inl ⟨e, upd_ne h⟩
theorem Sim.sub (S : Sim K H M) (s : Sub M' M) : Sim K H M' := fun a o e => S a o (s a o e)
theorem Stp.sub (s : Sub M' M) : Stp H M H M' := ⟨fun a o h n => ⟨h, by
  cases e : M' a with
  | none => rfl
  | some x => rw [s a x e] at n; cases n⟩, fun a t ks e => ⟨rfl, by
  cases e2 : M' a with
  | none => exact .inr rfl
  | some x => exact .inl (s a x e2).symm⟩⟩
end

/-! ### continuations -/
def Cont (K : Fg) (H : Hp) (M : Hm) (Qu : QU) (Q : VK) : Prop := ∀ v H' u M', Stp H M H' M' → Sim K H' M' → Rel K H' v u → Qu u M' → Q v H'
def ContB (K : Fg) (H : Hp) (M : Hm) (Qu : Bool → Hm → Prop) (Q : Bool → Hp → Prop) : Prop := ∀ b H' M', Stp H M H' M' → Sim K H' M' → Qu b M' → Q b H'
def ContL (K : Fg) (H : Hp) (M : Hm) (Qu : List U → Hm → Prop) (Q : List V → Hp → Prop) : Prop := ∀ v H' u M', Stp H M H' M' → Sim K H' M' → RelL K H' v u → Qu u M' → Q v H'
section
variable {K : Fg} {H H' : Hp} {M M' : Hm} {Qu : QU} {Q : VK}
theorem Cont.at_ (c : Cont K H M Qu Q) (S : Sim K H M) {v : V} {u : U} (r : Rel K H v u) (q : Qu u M) : Q v H := c v H u M (Stp.refl H M) S r q
theorem Cont.bl (c : Cont K H M (fun u M => ∃ b, u = .bl b ∧ Qu u M) Q) : True := trivial
theorem Cont.tr {H1 : Hp} {M1 : Hm} (S0 : Sim K H M) (t : Stp H M H1 M1) (c : Cont K H M Qu Q) : Cont K H1 M1 Qu Q := fun v H' u M' t' S r q => c v H' u M' (t.trans S0 t') S r q
theorem ContB.tr {H1 : Hp} {M1 : Hm} {Qu : Bool → Hm → Prop} {Q : Bool → Hp → Prop} (S0 : Sim K H M) (t : Stp H M H1 M1) (c : ContB K H M Qu Q) : ContB K H1 M1 Qu Q := fun v H' M' t' S q => c v H' M' (t.trans S0 t') S q
theorem ContL.tr {H1 : Hp} {M1 : Hm} {Qu : List U → Hm → Prop} {Q : List V → Hp → Prop} (S0 : Sim K H M) (t : Stp H M H1 M1) (c : ContL K H M Qu Q) : ContL K H1 M1 Qu Q := fun v H' u M' t' S r q => c v H' u M' (t.trans S0 t') S r q
/-- a new tuple -/
theorem Cont.tup (c : Cont K H M Qu Q) (S : Sim K H M) {vs : List V} {us : List U} (r : RelL K H vs us) (q : Qu (.tup us) M) {p : Addr} (hp : H p = none) : Q (.ref p) (upd H p (.tup vs)) :=
  c _ _ (.tup us) M (Stp.newT S hp) (S.newT hp) (.tup upd_same (r.stp S (Stp.newT S hp))) q
/-- a new list -/
theorem Cont.lst (c : Cont K H M Qu Q) (S : Sim K H M) {vs : List V} {us : List U} (r : RelL K H vs us) (q : ∀ p, M p = none → Qu (.ref p) (um M p (.lst us))) {p : Addr} (hp : H p = none) : Q (.ref p) (upd H p (.lst vs)) :=
  c _ _ (.ref p) (um M p (.lst us)) (Stp.new S hp) (S.new (m := .lst us) hp ⟨vs, upd_same, r.stp S (Stp.new (m := .lst us) S hp)⟩) (.ref p) (q p (S.fr hp))
/-- a list changed -/
theorem Cont.mutL (c : Cont K H M Qu Q) (S : Sim K H M) {p : Addr} {ws : List U} {vs : List V} {us : List U} (hm : M p = some (.lst ws)) (r : RelL K H vs us) {v : V} {u : U} (rv : Rel K H v u) (q : Qu u (um M p (.lst us))) : Q v (upd H p (.lst vs)) :=
  c _ _ u (um M p (.lst us)) (Stp.mut hm) (S.mut (m := .lst us) hm rfl ⟨vs, upd_same, r.stp S (Stp.mut (m := .lst us) hm)⟩) (rv.stp S (Stp.mut (m := .lst us) hm)) q
theorem Rel.ref_lst {S : Sim K H M} {v : V} {p : Addr} (r : Rel K H v (.ref p)) : v = .ref p := by cases r; rfl
end
/-- the reading of a two-place operation -/
def R2s (K : Fg) (f : U → U → Hm → QU → Prop) : R2 := fun x y H Q => ∃ a b M Qu, Sim K H M ∧ Rel K H x a ∧ Rel K H y b ∧ f a b M Qu ∧ Cont K H M Qu Q
def bopOf : Bop → Operator
  | .add => .Add | .sub => .Sub | .mul => .Mult | .fdiv => .FloorDiv | .mod => .Mod | .pow => .Pow | .shl => .LShift | .shr => .RShift | .band => .BitAnd | .bor => .BitOr
def copOf : Cop → CmpOp
  | .eq => .Eq | .ne => .NotEq | .lt => .Lt | .le => .LtE | .gt => .Gt | .ge => .GtE | .isin => .In | .notin => .NotIn
section
variable {X : Cx}
theorem op_binS (op : Bop) : OpR X (binaryOp (bopOf op)) (R2s X.K (binW op)) := by
  intro pins s σ H x y v u Q I rx ry h
  obtain ⟨a, b, M, Qu, S, ra, rb, hf, c⟩ := h
  have int2 : ∀ {i j : Int}, a = .int i → b = .int j → x = .int i ∧ y = .int j := fun {i j} e1 e2 => by
    subst e1 e2
    cases ra
    cases rb
    exact ⟨rfl, rfl⟩
  unfold binW at hf
  split at hf
  · cases ra; cases rb; exact op_add pins s σ H _ _ v u Q I rx ry ⟨_, _, rfl, rfl, c.at_ S (.int _) hf⟩
  · cases ra; cases rb; exact op_sub pins s σ H _ _ v u Q I rx ry ⟨_, _, rfl, rfl, c.at_ S (.int _) hf⟩
  · cases ra; cases rb; exact op_mul pins s σ H _ _ v u Q I rx ry ⟨_, _, rfl, rfl, hf.1, c.at_ S (.int _) hf.2⟩
  · cases ra; cases rb; exact op_fdiv pins s σ H _ _ v u Q I rx ry ⟨_, _, rfl, rfl, hf.1, c.at_ S (.int _) hf.2⟩
  · cases ra; cases rb; exact op_mod pins s σ H _ _ v u Q I rx ry ⟨_, _, rfl, rfl, hf.1, c.at_ S (.int _) hf.2⟩
  · cases ra; cases rb; exact op_pow pins s σ H _ _ v u Q I rx ry ⟨_, _, rfl, rfl, hf.1, c.at_ S (.int _) hf.2⟩
  · cases ra; cases rb; exact op_shl pins s σ H _ _ v u Q I rx ry ⟨_, _, rfl, rfl, hf.1, c.at_ S (.int _) hf.2⟩
  · cases ra; cases rb; exact op_shr pins s σ H _ _ v u Q I rx ry ⟨_, _, rfl, rfl, hf.1, c.at_ S (.int _) hf.2⟩
  · cases ra; cases rb; exact op_and pins s σ H _ _ v u Q I rx ry ⟨_, _, rfl, rfl, c.at_ S (.int _) hf⟩
  · cases ra; cases rb; exact op_or pins s σ H _ _ v u Q I rx ry ⟨_, _, rfl, rfl, c.at_ S (.int _) hf⟩
  · cases ra; cases rb; exact op_add_str pins s σ H _ _ v u Q I rx ry ⟨_, _, rfl, rfl, le_line hf.1, c.at_ S (.str _) hf.2⟩
  · cases ra with
    | tup t1 r1 =>
      cases rb with
      | tup t2 r2 =>
        rename_i la lb p vs q ws
        refine op_catA pins s σ H _ _ v u Q I rx ry ⟨p, q, vs, ws, rfl, rfl, t1.sq, t2.sq, by rw [r1.length, r2.length]; exact le_line hf.1, fun e => ?_, fun _ e => ?_, fun _ _ n hn => c.tup S (r1.append r2) hf.2 hn⟩
        · have e1 : la = [] := r1.nil_iff.mp e
          have q2 := hf.2
          rw [e1, List.nil_append] at q2
          exact c.at_ S (.tup t2 r2) q2
        · have e1 : lb = [] := r2.nil_iff.mp e
          have q2 := hf.2
          rw [e1, List.append_nil] at q2
          exact c.at_ S (.tup t1 r1) q2
  · obtain ⟨us, ws, h1, h2, hl, hq⟩ := hf
    obtain ⟨vs, g1, r1⟩ := S _ _ h1
    obtain ⟨xs, g2, r2⟩ := S _ _ h2
    cases ra; cases rb
    exact op_cat pins s σ H _ _ v u Q I rx ry ⟨_, _, _, _, rfl, rfl, g1, g2, by rw [r1.length, r2.length]; exact le_line hl, fun n hn => c.lst S (r1.append r2) hq hn⟩
  · exact hf.elim
end
end Pl

set_option maxHeartbeats 4000000
/-! comparisons, truth, subscripts, stores, built-ins by values -/
namespace Pl
open PySem L2
section
variable {K : Fg} {H H' : Hp} {M M' : Hm}
mutual
theorem ok_dp : ∀ (n : Nat) (u : U) (v : V), u.ok n = true → Rel K H v u → Dp K H v (pd u)
  | _, .non, _, _, r => by cases r; exact .non
  | _, .int i, _, _, r => by cases r; exact .int i
  | _, .str x, _, _, r => by cases r; exact .str x
  | n + 1, .tup l, _, h, r => by
    cases r with
    | tup t rl => exact .tup t.sq (ok_dpL n l _ (by simpa [U.ok] using h) rl)
  | 0, .tup l, _, h, r => by simp [U.ok] at h
  | _, .bl _, _, h, _ => by simp [U.ok] at h
  | _, .ref _, _, h, _ => by simp [U.ok] at h
  | _, .rol _, _, h, _ => by simp [U.ok] at h
theorem ok_dpL : ∀ (n : Nat) (l : List U) (vs : List V), (∀ x ∈ l, x.ok n = true) → RelL K H vs l → DpAll K H vs (pdL l)
  | _, [], _, _, r => by cases r; exact .nil
  | n, x :: xs, _, h, r => by
    cases r with
    | cons a b => exact .cons (ok_dp n x _ (h x List.mem_cons_self) a) (ok_dpL n xs _ (fun y hy => h y (List.mem_cons_of_mem _ hy)) b)
end
end
mutual
theorem ok_lay : ∀ (n : Nat) (u : U), u.ok n = true → (pd u).canLay0 = true ∧ (pd u).depth ≤ n
  | _, .non, _ => ⟨by simp [pd, PyData.canLay0], by simp [pd, PyData.depth]⟩
  | _, .int i, _ => ⟨by simp [pd, PyData.canLay0], by simp [pd, PyData.depth]⟩
  | _, .str x, h => ⟨by
    have q : okS x = true := by simpa [U.ok] using h
    simp only [pd, PyData.canLay0]
    exact q, by simp [pd, PyData.depth]⟩
  | n + 1, .tup l, h => by
    obtain ⟨a, b⟩ := ok_layL n l (by simpa [U.ok] using h)
    refine ⟨?_, ?_⟩
    · simp only [pd, PyData.canLay0]; exact a
    · simp only [pd, PyData.depth]; omega
  | 0, .tup l, h => by simp [U.ok] at h
  | _, .bl _, h => by simp [U.ok] at h
  | _, .ref _, h => by simp [U.ok] at h
  | _, .rol _, h => by simp [U.ok] at h
theorem ok_layL : ∀ (n : Nat) (l : List U), (∀ x ∈ l, x.ok n = true) → PyData.canLayAll0 (pdL l) = true ∧ PyData.depthAll (pdL l) ≤ n
  | _, [], _ => ⟨by simp [pdL, PyData.canLayAll0], by simp [pdL, PyData.depthAll]⟩
  | n, x :: xs, h => by
    obtain ⟨a, b⟩ := ok_lay n x (h x List.mem_cons_self)
    obtain ⟨c, d⟩ := ok_layL n xs (fun y hy => h y (List.mem_cons_of_mem _ hy))
    refine ⟨?_, ?_⟩
    · simp only [pdL, PyData.canLayAll0, a, c, Bool.and_self]
    · simp only [pdL, PyData.depthAll]; omega
end
mutual
theorem ok_eqv : ∀ (n : Nat) (u : U) (m : Nat) (x : U), u.ok n = true → x.ok m = true → PyData.eqv (pd u) (pd x) = decide (u = x)
  | _, .non, m, x, _, h => by cases x <;> first | (simp [pd, PyData.eqv]; done) | simp [U.ok] at h
  | _, .int i, m, x, _, h => by cases x <;> first | (simp [pd, PyData.eqv, Bool.beq_eq_decide_eq]; done) | simp [U.ok] at h
  | _, .str s, m, x, _, h => by cases x <;> first | (simp [pd, PyData.eqv, Bool.beq_eq_decide_eq]; done) | simp [U.ok] at h
  | n + 1, .tup l, m, x, g, h => by
    cases x with
    | tup l2 =>
      cases m with
      | zero => simp [U.ok] at h
      | succ m =>
        have q := ok_eqvL n l m l2 (by simpa [U.ok] using g) (by simpa [U.ok] using h)
        simp only [pd, PyData.eqv, q, U.tup.injEq]
    | bl _ => simp [U.ok] at h
    | ref _ => simp [U.ok] at h
    | rol _ => simp [U.ok] at h
    | _ => simp [pd, PyData.eqv]
  | 0, .tup l, _, _, h, _ => by simp [U.ok] at h
  | _, .bl _, _, _, h, _ => by simp [U.ok] at h
  | _, .ref _, _, _, h, _ => by simp [U.ok] at h
  | _, .rol _, _, _, h, _ => by simp [U.ok] at h
theorem ok_eqvL : ∀ (n : Nat) (l : List U) (m : Nat) (l2 : List U), (∀ x ∈ l, x.ok n = true) → (∀ x ∈ l2, x.ok m = true) → PyData.eqvAll (pdL l) (pdL l2) = decide (l = l2)
  | _, [], _, [], _, _ => by simp [pdL, PyData.eqvAll]
  | _, [], _, _ :: _, _, _ => by simp [pdL, PyData.eqvAll]
  | _, _ :: _, _, [], _, _ => by simp [pdL, PyData.eqvAll]
  | n, x :: xs, m, y :: ys, g, h => by
    have a := ok_eqv n x m y (g x List.mem_cons_self) (h y List.mem_cons_self)
    have b := ok_eqvL n xs m ys (fun z hz => g z (List.mem_cons_of_mem _ hz)) (fun z hz => h z (List.mem_cons_of_mem _ hz))
    simp only [pdL, PyData.eqvAll, a, b, List.cons.injEq, Bool.decide_and]
end
theorem ok_shaped {n : Nat} {u : U} (h : u.ok n = true) (hn : n ≤ 64) : SeqAt.shaped (pd u) = true := by
  obtain ⟨a, b⟩ := ok_lay n u h
  unfold SeqAt.shaped
  rw [a, Bool.true_and]
  exact decide_eq_true (by omega)
theorem okL_all {l : List U} (h : okL l = true) : ∀ x ∈ l, x.ok 59 = true := List.all_eq_true.mp h
theorem okL_shaped {l : List U} (h : okL l = true) : SeqAt.shaped (.list (pdL l)) = true := by
  obtain ⟨a, b⟩ := ok_layL 59 l (okL_all h)
  unfold SeqAt.shaped
  have e : (PyData.list (pdL l)).canLay0 = true := by simp only [PyData.canLay0]; exact a
  rw [e, Bool.true_and]
  exact decide_eq_true (by simp only [PyData.depth]; omega)
theorem any_eqv {x : U} (hx : okU x = true) : ∀ (l : List U), (∀ y ∈ l, y.ok 59 = true) → ((pdL l).any fun z => PyData.eqv z (pd x)) = decide (x ∈ l)
  | [], _ => by simp [pdL]
  | y :: ys, h => by
    have a := ok_eqv 59 y 60 x (h y List.mem_cons_self) hx
    have b := any_eqv hx ys fun z hz => h z (List.mem_cons_of_mem _ hz)
    rw [pdL, List.any_cons, a, b, ← Bool.decide_or]
    exact decide_eq_decide.mpr ⟨fun z => z.elim (fun e => by rw [e]; exact List.mem_cons_self) (List.mem_cons_of_mem _), fun z => (List.mem_cons.mp z).elim (fun e => .inl e.symm) .inr⟩

/-! ### keys -/
section
variable {K : Fg} {H H' : Hp} {M M' : Hm}
theorem isKey_of {u : U} {v : V} (h : isKey u = true) (r : Rel K H v u) : ∃ k : Key, u = keyU k ∧ v = kV k := by
  cases r with
  | int i => exact ⟨.inl i, rfl, rfl⟩
  | str x => exact ⟨.inr x, rfl, rfl⟩
  | _ => cases h
theorem isKeys_of : ∀ {us : List U} {vs : List V}, us.all isKey = true → RelL K H vs us → ∃ ks : List Key, us = ks.map keyU ∧ vs = ks.map kV
  | [], _, _, r => by cases r; exact ⟨[], rfl, rfl⟩
  | u :: us, _, h, r => by
    cases r with
    | cons a b =>
      rw [List.all_cons, Bool.and_eq_true] at h
      obtain ⟨k, e1, e2⟩ := isKey_of h.1 a
      obtain ⟨ks, f1, f2⟩ := isKeys_of h.2 b
      exact ⟨k :: ks, by rw [e1, f1]; rfl, by rw [e2, f2]; rfl⟩
theorem isKeyT_of {u : U} {v : V} (h : isKeyT u = true) (r : Rel K H v u) : ∃ (b : Addr) (ks : List Key), u = .tup (ks.map keyU) ∧ v = .ref b ∧ H b = some (.tup (ks.map kV)) := by
  cases r with
  | tup t rl =>
    obtain ⟨ks, e1, e2⟩ := isKeys_of h rl
    rename_i a vs us
    exact ⟨a, ks, by rw [e1], rfl, by rw [← e2]; exact t⟩
  | _ => cases h
theorem dfind_cons (p : U × U) (ks : List (U × U)) (k : U) : dfind (p :: ks) k = if p.1 = k then some p.2 else dfind ks k := by
  unfold dfind
  rw [List.find?_cons]
  by_cases h : p.1 = k
  · simp [h]
  · simp [h]
theorem RelK.find {kvs : List (Key × V)} {ks : List (U × U)} (h : RelK K H kvs ks) (k : Key) : (valV kvs k = none ∧ dfind ks (keyU k) = none) ∨ ∃ v u, valV kvs k = some v ∧ dfind ks (keyU k) = some u ∧ Rel K H v u := by
  unfold RelK at h
  induction h with
  | nil => exact .inl ⟨rfl, rfl⟩
  | @cons p q ps qs a _ ih =>
    rw [dfind_cons]
    by_cases e : p.1 = k
    · right
      refine ⟨p.2, q.2, valV_pos e, ?_, a.2⟩
      rw [if_pos (by rw [a.1, e])]
    · rw [valV_neg e, if_neg (fun z => e (keyU_inj (a.1.symm.trans z)))]
      exact ih
theorem RelT.find {kvs : List (List Key × V)} {ks : List (U × U)} (h : RelT K H kvs ks) (k : List Key) : (valV kvs k = none ∧ dfind ks (.tup (k.map keyU)) = none) ∨ ∃ v u, valV kvs k = some v ∧ dfind ks (.tup (k.map keyU)) = some u ∧ Rel K H v u := by
  unfold RelT at h
  induction h with
  | nil => exact .inl ⟨rfl, rfl⟩
  | @cons p q ps qs a _ ih =>
    rw [dfind_cons]
    by_cases e : p.1 = k
    · right
      refine ⟨p.2, q.2, valV_pos e, ?_, a.2⟩
      rw [if_pos (by rw [a.1, e])]
    · rw [valV_neg e, if_neg (fun z => e (keysU_inj (by
        have z2 := a.1.symm.trans z
        injection z2)))]
      exact ih
theorem Paired.app {α β : Type} {F : α → β → Prop} {xs xs' : List α} {ys ys' : List β} (h : Paired F xs ys) (k : Paired F xs' ys') : Paired F (xs ++ xs') (ys ++ ys') := by
  induction h with
  | nil => exact k
  | cons a _ ih => exact .cons a ih
theorem RelK.put {kvs : List (Key × V)} {ks : List (U × U)} (h : RelK K H kvs ks) (k : Key) {v : V} {u : U} (r : Rel K H v u) : RelK K H (putK kvs k v) (dput ks (keyU k) u) := by
  unfold putK dput
  rw [valV_any]
  have c : (valV kvs k).isSome = (dfind ks (keyU k)).isSome := by
    rcases h.find k with ⟨a, b⟩ | ⟨_, _, a, b, _⟩ <;> rw [a, b] <;> rfl
  rw [c]
  by_cases z : (dfind ks (keyU k)).isSome = true
  · rw [if_pos z, if_pos z]
    unfold RelK at h ⊢
    clear z c
    induction h with
    | nil => exact .nil
    | @cons p q ps qs a _ ih =>
      rw [List.map_cons, List.map_cons]
      refine .cons ?_ ih
      by_cases e : p.1 = k
      · rw [if_pos e, if_pos (by rw [a.1, e])]
        exact ⟨a.1, r⟩
      · rw [if_neg e, if_neg (fun z => e (keyU_inj (a.1.symm.trans z)))]
        exact a
  · rw [if_neg z, if_neg z]
    exact Paired.app h (.cons ⟨rfl, r⟩ .nil)
theorem RelT.put {kvs : List (List Key × V)} {ks : List (U × U)} (h : RelT K H kvs ks) (k : List Key) {v : V} {u : U} (r : Rel K H v u) : RelT K H (putK kvs k v) (dput ks (.tup (k.map keyU)) u) := by
  unfold putK dput
  rw [valV_any]
  have c : (valV kvs k).isSome = (dfind ks (.tup (k.map keyU))).isSome := by
    rcases h.find k with ⟨a, b⟩ | ⟨_, _, a, b, _⟩ <;> rw [a, b] <;> rfl
  rw [c]
  by_cases z : (dfind ks (.tup (k.map keyU))).isSome = true
  · rw [if_pos z, if_pos z]
    unfold RelT at h ⊢
    clear z c
    induction h with
    | nil => exact .nil
    | @cons p q ps qs a _ ih =>
      rw [List.map_cons, List.map_cons]
      refine .cons ?_ ih
      by_cases e : p.1 = k
      · rw [if_pos e, if_pos (by rw [a.1, e])]
        exact ⟨a.1, r⟩
      · rw [if_neg e, if_neg (fun z => e (keysU_inj (by
          have z2 := a.1.symm.trans z
          injection z2)))]
        exact a
  · rw [if_neg z, if_neg z]
    exact Paired.app h (.cons ⟨rfl, r⟩ .nil)
theorem RelK.len {kvs : List (Key × V)} {ks : List (U × U)} (h : RelK K H kvs ks) : kvs.length = ks.length := Paired.length h
theorem RelT.len {kvs : List (List Key × V)} {ks : List (U × U)} (h : RelT K H kvs ks) : kvs.length = ks.length := Paired.length h
theorem fz_rd {z : Bool} {a : Addr} {u : HO} (h : fz z (H a) u) : Rd H a u := by
  unfold fz at h
  cases z with
  | true => exact .inr (show ∃ ob, H a = some (.frz ob u) from h)
  | false => exact .inl h
/-- what a dict holds -/
theorem dget_of (S : Sim K H M) {p : Addr} {z t : Bool} {ks : List (U × U)} {k : U} {y : V} (hm : M p = some (.dct z t ks)) (hk : keyFor t k = true) (r : Rel K H y k) :
    ∃ o, DGet H p y o ∧ ((o = none ∧ dfind ks k = none) ∨ ∃ v u, o = some v ∧ dfind ks k = some u ∧ Rel K H v u) := by
  have q := S p _ hm
  cases t with
  | false =>
    obtain ⟨kvs, e, rk⟩ := q
    obtain ⟨key, e1, e2⟩ := isKey_of hk r
    refine ⟨valV kvs key, .inl ⟨kvs, key, fz_rd e, e2, rfl⟩, ?_⟩
    rw [e1]
    exact rk.find key
  | true =>
    obtain ⟨kvs, e, rk⟩ := q
    obtain ⟨b, key, e1, e2, e3⟩ := isKeyT_of hk r
    refine ⟨valV kvs key, .inr ⟨kvs, key, b, fz_rd e, e2, e3, rfl⟩, ?_⟩
    rw [e1]
    exact rk.find key
theorem dput_of (S : Sim K H M) {p : Addr} {t : Bool} {ks : List (U × U)} {k u : U} {y v : V} (hm : M p = some (.dct false t ks)) (hk : keyFor t k = true) (r : Rel K H y k) (rv : Rel K H v u) (hl : ks.length < LIM) :
    ∃ H', DPut H p y v H' ∧ Stp H M H' (um M p (.dct false t (dput ks k u))) ∧ Sim K H' (um M p (.dct false t (dput ks k u))) := by
  have q := S p _ hm
  cases t with
  | false =>
    obtain ⟨kvs, e, rk⟩ := q
    have e : H p = some (.dK kvs) := e
    obtain ⟨key, e1, e2⟩ := isKey_of hk r
    have st : Stp H M (upd H p (.dK (putK kvs key v))) (um M p (.dct false false (dput ks k u))) := Stp.mut hm
    refine ⟨_, .inl ⟨kvs, key, e, e2, by rw [rk.len]; exact lt_line hl, rfl⟩, st, S.mut (m := .dct false false (dput ks k u)) hm rfl ⟨_, upd_same, ?_⟩⟩
    rw [e1]
    exact RelK.put (Paired.mapR rk fun p q x => ⟨x.1, x.2.stp S st⟩) key (rv.stp S st)
  | true =>
    obtain ⟨kvs, e, rk⟩ := q
    have e : H p = some (.dT kvs) := e
    obtain ⟨b, key, e1, e2, e3⟩ := isKeyT_of hk r
    have st : Stp H M (upd H p (.dT (putK kvs key v))) (um M p (.dct false true (dput ks k u))) := Stp.mut hm
    refine ⟨_, .inr ⟨kvs, key, b, e, e2, e3, by rw [rk.len]; exact lt_line hl, rfl⟩, st, S.mut (m := .dct false true (dput ks k u)) hm rfl ⟨_, upd_same, ?_⟩⟩
    rw [e1]
    exact RelT.put (Paired.mapR rk fun p q x => ⟨x.1, x.2.stp S st⟩) key (rv.stp S st)
theorem relL_in {k : Key} : ∀ {ks : List Key} , inV (kV k) (ks.map kV) = decide (keyU k ∈ ks.map keyU)
  | [] => by simp [inV]
  | x :: xs => by
    have ih := @relL_in k xs
    unfold inV at ih ⊢
    rw [List.map_cons, List.any_cons, ih, List.map_cons]
    have e : eqV (kV x) (kV k) = decide (keyU x = keyU k) := by
      cases x <;> cases k <;> simp [kV, eqV, keyU, Bool.beq_eq_decide_eq]
    rw [e, ← Bool.decide_or]
    exact decide_eq_decide.mpr ⟨fun z => z.elim (fun e => by rw [e]; exact List.mem_cons_self) (List.mem_cons_of_mem _), fun z => (List.mem_cons.mp z).elim (fun e => .inl e.symm) .inr⟩
theorem flat_keys : ∀ ks : List Key, (ks.map kV).all flatV = true
  | [] => rfl
  | k :: ks => by rw [List.map_cons, List.all_cons, flat_keys ks]; cases k <;> rfl
end
end Pl

set_option maxHeartbeats 4000000
namespace Pl
open PySem L2
/-- a comparison: the value is a bool -/
def asB (f : U → U → Hm → (Bool → Hm → Prop) → Prop) : U → U → Hm → QU → Prop := fun a b M Q => f a b M fun k M => Q (.bl k) M
section
variable {X : Cx}
theorem eq_case {a b : U} {M : Hm} {Q : Bool → Hm → Prop} (h : eqW a b M Q) :
    (∃ i j, a = .bl i ∧ b = .bl j ∧ Q (i == j) M) ∨ (∃ i j, a = .int i ∧ b = .int j ∧ Q (decide (i = j)) M) ∨ (∃ i j, a = .str i ∧ b = .str j ∧ Q (decide (i = j)) M) ∨
    (∃ p q us ws, a = .ref p ∧ b = .ref q ∧ M p = some (.lst us) ∧ M q = some (.lst ws) ∧ okL us = true ∧ okL ws = true ∧ Q (decide (us = ws)) M) ∨ (okU a = true ∧ okU b = true ∧ Q (decide (a = b)) M) := by
  unfold eqW at h
  split at h
  · exact .inl ⟨_, _, rfl, rfl, h⟩
  · exact .inr (.inl ⟨_, _, rfl, rfl, h⟩)
  · exact .inr (.inr (.inl ⟨_, _, rfl, rfl, h⟩))
  · obtain ⟨us, ws, h1, h2, h3, h4, h5⟩ := h
    exact .inr (.inr (.inr (.inl ⟨_, _, us, ws, rfl, rfl, h1, h2, h3, h4, h5⟩)))
  · exact .inr (.inr (.inr (.inr h)))
theorem okL_dp {K : Fg} {H : Hp} {M : Hm} (S : Sim K H M) {p : Addr} {us : List U} (h : M p = some (.lst us)) (ok : okL us = true) : Dp K H (.ref p) (.list (pdL us)) := by
  obtain ⟨vs, e, r⟩ := S p _ h
  exact .lst (.inl (.inl e)) (ok_dpL 59 us vs (okL_all ok) r)
theorem op_eqS (hu : X.A.units + 64 < cLine) : OpR X (compareOp .Eq) (R2s X.K (asB eqW)) := by
  intro pins s σ H x y v u Q I rx ry h
  obtain ⟨a, b, M, Qu, S, ra, rb, hf, c⟩ := h
  rcases eq_case hf with ⟨i, j, rfl, rfl, q⟩ | ⟨i, j, rfl, rfl, q⟩ | ⟨i, j, rfl, rfl, q⟩ | ⟨p, p', us, ws, rfl, rfl, h1, h2, h3, h4, q⟩ | ⟨h1, h2, q⟩
  · cases ra; cases rb
    refine op_eq pins s σ H _ _ v u Q I rx ry ⟨rfl, ?_⟩
    rw [dec_bl]
    exact c.at_ S (.bl _) q
  · cases ra; cases rb
    refine op_eq pins s σ H _ _ v u Q I rx ry ⟨rfl, ?_⟩
    rw [dec_int, Bool.beq_eq_decide_eq]
    exact c.at_ S (.bl _) q
  · cases ra; cases rb
    refine op_eq pins s σ H _ _ v u Q I rx ry ⟨rfl, ?_⟩
    rw [dec_str, Bool.beq_eq_decide_eq]
    exact c.at_ S (.bl _) q
  · cases ra; cases rb
    refine op_eqD hu pins s σ H _ _ v u Q I rx ry ⟨_, _, okL_dp S h1 h3, okL_dp S h2 h4, okL_shaped h3, okL_shaped h4, ?_⟩
    have e : PyData.eqv (.list (pdL us)) (.list (pdL ws)) = decide (us = ws) := by
      rw [PyData.eqv]
      exact ok_eqvL 59 us 59 ws (okL_all h3) (okL_all h4)
    rw [e]
    exact c.at_ S (.bl _) q
  · refine op_eqD hu pins s σ H _ _ v u Q I rx ry ⟨_, _, ok_dp 60 a x h1 ra, ok_dp 60 b y h2 rb, ok_shaped h1 (by decide), ok_shaped h2 (by decide), ?_⟩
    rw [ok_eqv 60 a 60 b h1 h2]
    exact c.at_ S (.bl _) q
theorem op_neS (hu : X.A.units + 64 < cLine) : OpR X (compareOp .NotEq) (R2s X.K (asB fun x y M Q => eqW x y M fun b M => Q (!b) M)) := by
  intro pins s σ H x y v u Q I rx ry h
  obtain ⟨a, b, M, Qu, S, ra, rb, hf, c⟩ := h
  have hf : eqW a b M fun b M => Qu (.bl (!b)) M := hf
  rcases eq_case hf with ⟨i, j, rfl, rfl, q⟩ | ⟨i, j, rfl, rfl, q⟩ | ⟨i, j, rfl, rfl, q⟩ | ⟨p, p', us, ws, rfl, rfl, h1, h2, h3, h4, q⟩ | ⟨h1, h2, q⟩
  · cases ra; cases rb
    refine op_ne pins s σ H _ _ v u Q I rx ry ⟨rfl, ?_⟩
    rw [dec_bl]
    exact c.at_ S (.bl _) q
  · cases ra; cases rb
    refine op_ne pins s σ H _ _ v u Q I rx ry ⟨rfl, ?_⟩
    rw [dec_int, Bool.beq_eq_decide_eq]
    exact c.at_ S (.bl _) q
  · cases ra; cases rb
    refine op_ne pins s σ H _ _ v u Q I rx ry ⟨rfl, ?_⟩
    rw [dec_str, Bool.beq_eq_decide_eq]
    exact c.at_ S (.bl _) q
  · cases ra; cases rb
    refine op_neD hu pins s σ H _ _ v u Q I rx ry ⟨_, _, okL_dp S h1 h3, okL_dp S h2 h4, okL_shaped h3, okL_shaped h4, ?_⟩
    have e : PyData.eqv (.list (pdL us)) (.list (pdL ws)) = decide (us = ws) := by
      rw [PyData.eqv]
      exact ok_eqvL 59 us 59 ws (okL_all h3) (okL_all h4)
    rw [e]
    exact c.at_ S (.bl _) q
  · refine op_neD hu pins s σ H _ _ v u Q I rx ry ⟨_, _, ok_dp 60 a x h1 ra, ok_dp 60 b y h2 rb, ok_shaped h1 (by decide), ok_shaped h2 (by decide), ?_⟩
    rw [ok_eqv 60 a 60 b h1 h2]
    exact c.at_ S (.bl _) q
theorem op_inS (hu : X.A.units + 65 < cLine) : OpR X (compareOp .In) (R2s X.K (asB (inW false))) := by
  intro pins s σ H x y v u Q I rx ry h
  obtain ⟨a, b, M, Qu, S, ra, rb, hf, c⟩ := h
  have hf : inW false a b M fun b M => Qu (.bl b) M := hf
  unfold inW at hf
  split at hf
  · obtain ⟨_, _, ⟨h3, h4⟩, q⟩ := hf
    cases rb with
    | tup t r =>
      obtain ⟨ks, e1, e2⟩ := isKeys_of h3 r
      obtain ⟨k, e3, e4⟩ := isKey_of h4 ra
      subst e1 e2 e3 e4
      refine op_in_seq pins s σ H _ _ v u Q I rx ry ⟨_, _, rfl, .inr t.sq, by cases k <;> rfl, flat_keys ks, ?_⟩
      rw [if_neg (by decide), relL_in]
      rw [if_neg (by decide)] at q
      exact c.at_ S (.bl _) q
  · rcases hf with ⟨us, h1, h2, h3, q⟩ | ⟨z, t, ks, h1, h2, q⟩
    · cases rb
      refine op_inD hu pins s σ H _ _ v u Q I rx ry ⟨_, _, ok_dp 60 a x h2 ra, okL_dp S h1 h3, ok_shaped h2 (by decide), okL_shaped h3, ?_⟩
      rw [any_eqv h2 us (okL_all h3)]
      exact c.at_ S (.bl _) q
    · obtain ⟨o, g, q2⟩ := dget_of S h1 h2 ra
      cases rb
      obtain rfl : u = Value.ref _ := ry
      have e : o.isSome = (dfind ks a).isSome := by
        rcases q2 with ⟨e1, e2⟩ | ⟨_, _, e1, e2, _⟩ <;> rw [e1, e2] <;> rfl
      refine d_in (by omega) I g rx fun s' I' => ⟨.bl _, H, I', rfl, ?_⟩
      rw [e]
      exact c.at_ S (.bl _) q
  · exact hf.elim
theorem op_notinS (hu : X.A.units + 65 < cLine) : OpR X (compareOp .NotIn) (R2s X.K (asB (inW true))) := by
  intro pins s σ H x y v u Q I rx ry h
  obtain ⟨a, b, M, Qu, S, ra, rb, hf, c⟩ := h
  have hf : inW true a b M fun b M => Qu (.bl b) M := hf
  unfold inW at hf
  split at hf
  · obtain ⟨_, _, ⟨h3, h4⟩, q⟩ := hf
    cases rb with
    | tup t r =>
      obtain ⟨ks, e1, e2⟩ := isKeys_of h3 r
      obtain ⟨k, e3, e4⟩ := isKey_of h4 ra
      subst e1 e2 e3 e4
      refine op_notIn_seq pins s σ H _ _ v u Q I rx ry ⟨_, _, rfl, .inr t.sq, by cases k <;> rfl, flat_keys ks, ?_⟩
      rw [if_pos rfl, relL_in]
      rw [if_pos rfl] at q
      exact c.at_ S (.bl _) q
  · rcases hf with ⟨us, h1, h2, h3, q⟩ | ⟨z, t, ks, h1, h2, q⟩
    · cases rb
      refine op_notInD hu pins s σ H _ _ v u Q I rx ry ⟨_, _, ok_dp 60 a x h2 ra, okL_dp S h1 h3, ok_shaped h2 (by decide), okL_shaped h3, ?_⟩
      rw [any_eqv h2 us (okL_all h3)]
      exact c.at_ S (.bl _) q
    · obtain ⟨o, g, q2⟩ := dget_of S h1 h2 ra
      cases rb
      obtain rfl : u = Value.ref _ := ry
      have e : o.isSome = (dfind ks a).isSome := by
        rcases q2 with ⟨e1, e2⟩ | ⟨_, _, e1, e2, _⟩ <;> rw [e1, e2] <;> rfl
      refine d_notIn (by omega) I g rx fun s' I' => ⟨.bl _, H, I', rfl, ?_⟩
      rw [e]
      exact c.at_ S (.bl _) q
  · exact hf.elim
theorem op_cmpS (hu : X.A.units + 65 < cLine) (op : Cop) : OpR X (compareOp (copOf op)) (R2s X.K (asB (cmpW op))) := by
  cases op with
  | eq => exact op_eqS (by omega)
  | ne => exact op_neS (by omega)
  | isin => exact op_inS hu
  | notin => exact op_notinS hu
  | lt =>
    intro pins s σ H x y v u Q I rx ry h
    obtain ⟨a, b, M, Qu, S, ra, rb, hf, c⟩ := h
    unfold asB cmpW at hf
    simp only at hf
    split at hf
    · cases ra; cases rb; exact op_lt pins s σ H _ _ v u Q I rx ry ⟨_, _, rfl, rfl, c.at_ S (.bl _) hf⟩
    · exact hf.elim
  | le =>
    intro pins s σ H x y v u Q I rx ry h
    obtain ⟨a, b, M, Qu, S, ra, rb, hf, c⟩ := h
    unfold asB cmpW at hf
    simp only at hf
    split at hf
    · cases ra; cases rb; exact op_le pins s σ H _ _ v u Q I rx ry ⟨_, _, rfl, rfl, c.at_ S (.bl _) hf⟩
    · exact hf.elim
  | gt =>
    intro pins s σ H x y v u Q I rx ry h
    obtain ⟨a, b, M, Qu, S, ra, rb, hf, c⟩ := h
    unfold asB cmpW at hf
    simp only at hf
    split at hf
    · cases ra; cases rb; exact op_gt pins s σ H _ _ v u Q I rx ry ⟨_, _, rfl, rfl, c.at_ S (.bl _) hf⟩
    · exact hf.elim
  | ge =>
    intro pins s σ H x y v u Q I rx ry h
    obtain ⟨a, b, M, Qu, S, ra, rb, hf, c⟩ := h
    unfold asB cmpW at hf
    simp only at hf
    split at hf
    · cases ra; cases rb; exact op_ge pins s σ H _ _ v u Q I rx ry ⟨_, _, rfl, rfl, c.at_ S (.bl _) hf⟩
    · exact hf.elim

/-! ### truth -/
def TrS (K : Fg) : V → Hp → (Bool → Hp → Prop) → Prop := fun x H Q => ∃ a M Qu, Sim K H M ∧ Rel K H x a ∧ truW a M Qu ∧ ContB K H M Qu Q
theorem tru_of {K : Fg} {x : V} {H : Hp} {Q : Bool → Hp → Prop} (h : TrS K x H Q) : ∃ k, TruV K x H k ∧ Q k H := by
  obtain ⟨a, M, Qu, S, r, t, c⟩ := h
  unfold truW at t
  split at t
  · cases r; exact ⟨_, rfl, c _ _ _ (Stp.refl H M) S t⟩
  · cases r; exact ⟨_, rfl, c _ _ _ (Stp.refl H M) S t⟩
  · rename_i z
    cases r
    refine ⟨_, ⟨le_line t.1, rfl⟩, ?_⟩
    have e : ((z.length : Int) != 0) = (z.length != 0) := by
      by_cases h : z.length = 0
      · rw [h]; rfl
      · have h2 : (z.length : Int) ≠ 0 := by omega
        rw [bne_iff_ne.mpr h2, bne_iff_ne.mpr h]
    rw [e]
    exact c _ _ _ (Stp.refl H M) S t.2
  · cases r; exact ⟨_, rfl, c _ _ _ (Stp.refl H M) S t⟩
  · cases r with
    | tup t1 r1 =>
      refine ⟨_, .inr (.inl ⟨_, t1.sq, rfl⟩), ?_⟩
      rw [r1.isEmpty]
      exact c _ _ _ (Stp.refl H M) S t
  · rename_i p
    cases r
    rcases t with ⟨us, h1, q⟩ | ⟨ks, h1, q⟩
    · obtain ⟨vs, e, r1⟩ := S _ _ h1
      refine ⟨_, .inl ⟨_, .inl (.inl e), rfl⟩, ?_⟩
      rw [r1.isEmpty]
      exact c _ _ _ (Stp.refl H M) S q
    · obtain ⟨kvs, e, r1⟩ := S _ _ h1
      refine ⟨_, .inr (.inr ⟨kvs, e, rfl⟩), ?_⟩
      have e2 : kvs.isEmpty = ks.isEmpty := by cases r1 <;> rfl
      rw [e2]
      exact c _ _ _ (Stp.refl H M) S q
  · exact t.elim

/-! ### subscripts -/
theorem ix_pure {K : Fg} {H : Hp} {vs : List V} {us : List U} (r : RelL K H vs us) {j : Int} {u : U} (h : atI us j = some u) : ∃ v, atI vs j = some v ∧ Rel K H v u := by
  unfold atI at h ⊢
  rw [r.length]
  cases e : ixN us.length j with
  | none => rw [e] at h; cases h
  | some k =>
    rw [e] at h
    exact r.get h
theorem ix_S (hu : X.A.units + 1 < cLine) : IxR X (R2s X.K ixW) := by
  intro vl sl pins s σ H x y v u Q I rx ry h hs
  obtain ⟨a, b, M, Qu, S, ra, rb, hf, c⟩ := h
  unfold ixW at hf
  split at hf
  · obtain ⟨j, w, rfl, e, q⟩ := hf
    cases rb
    cases ra with
    | tup t r =>
      obtain ⟨v1, e1, r1⟩ := ix_pure r e
      exact ix_tup vl sl pins s σ H _ _ v u Q I rx ry ⟨_, _, _, _, rfl, rfl, t.sq, e1, c.at_ S r1 q⟩ hs
  · rcases hf with ⟨us, j, w, h1, rfl, e, q⟩ | ⟨z, t, ks, w, h1, h2, e, q⟩
    · cases rb
      cases ra
      obtain ⟨vs, e2, r⟩ := S _ _ h1
      obtain ⟨v1, e1, r1⟩ := ix_pure r e
      exact ix_list vl sl pins s σ H _ _ v u Q I rx ry ⟨_, _, _, _, rfl, rfl, .inl (.inl e2), e1, c.at_ S r1 q⟩ hs
    · obtain ⟨o, g, q2⟩ := dget_of S h1 h2 rb
      cases ra
      obtain rfl : v = Value.ref _ := rx
      rcases q2 with ⟨_, e2⟩ | ⟨v1, u1, e1, e2, r1⟩
      · rw [e] at e2; cases e2
      · rw [e] at e2
        cases e2
        subst e1
        exact PyProof.Rows.tail_any (dict_typeIs I g) PySem.F.slot_dict_getitem.lookup (d_getItem hu I g ry fun w' s' I' rw' => ⟨_, H, I', rw', c.at_ S r1 q⟩) hs
  · obtain ⟨j, cc, rfl, hl, e, q⟩ := hf
    cases ra; cases rb
    exact ix_str vl sl pins s σ H _ _ v u Q I rx ry ⟨_, _, _, rfl, rfl, le_line hl, e, c.at_ S (.str _) q⟩ hs
  · exact hf.elim
end
end Pl

set_option maxHeartbeats 400000
/-! sorted, over data -/
namespace Pl
open PySem L2
mutual
theorem reads_pd : ∀ (n : Nat) (u : U) (h : Heap) (v : Value) (as : List Addr), u.ok n = true → Reads h v (pd u) as → as = []
  | _, .non, _, _, _, _, r => by unfold pd at r; cases r; rfl
  | _, .int i, _, _, _, _, r => by unfold pd at r; cases r; rfl
  | _, .str x, _, _, _, _, r => by unfold pd at r; cases r; rfl
  | n + 1, .tup l, h, _, _, ok, r => by
    unfold pd at r
    cases r with
    | tuple a b c d => exact reads_pdL n l h _ _ (by simpa [U.ok] using ok) d
  | 0, .tup l, _, _, _, ok, _ => by simp [U.ok] at ok
  | _, .bl _, _, _, _, ok, _ => by simp [U.ok] at ok
  | _, .ref _, _, _, _, ok, _ => by simp [U.ok] at ok
  | _, .rol _, _, _, _, ok, _ => by simp [U.ok] at ok
theorem reads_pdL : ∀ (n : Nat) (l : List U) (h : Heap) (vs : List Value) (as : List Addr), (∀ x ∈ l, x.ok n = true) → ReadsAll h vs (pdL l) as → as = []
  | _, [], _, _, _, _, r => by unfold pdL at r; cases r; rfl
  | n, x :: xs, h, _, _, ok, r => by
    unfold pdL at r
    cases r with
    | cons a b => rw [reads_pd n x h _ _ (ok x List.mem_cons_self) a, reads_pdL n xs h _ _ (fun y hy => ok y (List.mem_cons_of_mem _ hy)) b]; rfl
end
theorem relK_keys {K : Fg} {H : Hp} : ∀ {kvs : List (Key × V)} {ks : List (U × U)}, RelK K H kvs ks → RelL K H (kvs.map fun kv => kV kv.1) (ks.map (·.1))
  | [], _, r => by unfold RelK at r; cases r; exact .nil
  | (k, v) :: kvs, _, r => by
    unfold RelK at r
    cases r with
    | @cons p q ps qs a b =>
      rw [List.map_cons, List.map_cons]
      refine .cons ?_ (relK_keys b)
      rw [a.1]
      cases k with
      | inl i => exact .int i
      | inr x => exact .str x
theorem relL_keys {K : Fg} {H : Hp} : ∀ k : List Key, RelL K H (k.map kV) (k.map keyU)
  | [] => .nil
  | .inl i :: r => .cons (.int i) (relL_keys r)
  | .inr i :: r => .cons (.str i) (relL_keys r)
/-- a call by values -/
def CRs (K : Fg) (g : List U → Hm → QU → Prop) : List V → Hp → VK → Prop := fun xs H Q => ∃ us M Qu, Sim K H M ∧ RelL K H xs us ∧ g us M Qu ∧ Cont K H M Qu Q
theorem paired_get {α β : Type} {F : α → β → Prop} : ∀ {as : List α} {bs : List β} {i : Nat} {a : α}, Paired F as bs → as[i]? = some a → ∃ b, bs[i]? = some b ∧ F a b
  | _, _, i, _, .nil, h => by simp at h
  | _, _, 0, _, .cons q _, h => ⟨_, rfl, by simp at h; rw [← h]; exact q⟩
  | _, _, i + 1, _, .cons _ r, h => by
    obtain ⟨b, e, q⟩ := paired_get r (by simpa using h)
    exact ⟨b, by simpa using e, q⟩
section
variable {X : Cx} {pins : List (Addr × Obj)} {σ : L2.St} {H : Hp} {s : Shared} {Q : VK} {M : Hm} {Qu : QU}
theorem each_of {us : List Value} {vs : List V} (r : Vals vs us) : ∀ {ws : List U}, vs.length = ws.length → W.EachIs (fun u (b : V × U) => RelV b.1 u) us (vs.zip ws) := by
  induction r with
  | nil => intro ws h; exact .nil
  | cons a _ ih =>
    intro ws h
    cases ws with
    | nil => cases h
    | cons w ws => exact .cons a (ih (by simpa using h))
theorem each_rev {us : List Value} {bs : List (V × U)} (r : W.EachIs (fun u (b : V × U) => RelV b.1 u) us bs) : Vals (bs.map (·.1)) us := by
  induction r with
  | nil => exact .nil
  | cons a _ ih => exact .cons a ih
theorem relL_zip {K : Fg} : ∀ {vs : List V} {ws : List U}, RelL K H vs ws → ∀ b ∈ vs.zip ws, Rel K H b.1 b.2 := by
  intro vs ws r
  induction vs generalizing ws with
  | nil => intro b hb; cases hb
  | cons v vs ih =>
    cases r with
    | cons a r =>
      intro b hb
      rw [List.zip_cons_cons] at hb
      rcases List.mem_cons.mp hb with e | hb
      · subst e; exact a
      · exact ih r b hb
theorem relL_of_all {K : Fg} : ∀ {bs : List (V × U)}, (∀ b ∈ bs, Rel K H b.1 b.2) → RelL K H (bs.map (·.1)) (bs.map (·.2))
  | [], _ => .nil
  | b :: bs, h => .cons (h b List.mem_cons_self) (relL_of_all fun c hc => h c (List.mem_cons_of_mem _ hc))
theorem each_reads (I : L2.Inv X pins σ H s) {h' : Heap} (hk : ∀ b o, s.heap.get? b = some o → h'.get? b = some o) (a0 : Addr) {us : List Value} {bs : List (V × U)} (e1 : W.EachIs (fun u (b : V × U) => RelV b.1 u) us bs) (dp : ∀ b ∈ bs, Rel X.K H b.1 b.2) (okz : ∀ b ∈ bs, b.2.ok 59 = true) :
    W.EachIs (fun v (b : V × U) => ∃ as, Reads h' v (pd b.2) as ∧ ¬ a0 ∈ as) us bs := by
  induction e1 with
  | nil => exact .nil
  | @cons u b us' bs' a _ ih =>
    refine .cons ?_ (ih (fun b hb => dp b (List.mem_cons_of_mem _ hb)) (fun b hb => okz b (List.mem_cons_of_mem _ hb)))
    have hd := ok_dp 59 b.2 b.1 (okz b List.mem_cons_self) (dp b List.mem_cons_self)
    obtain ⟨as, hr⟩ := hd.reads I _ _ _ a
    have h0 := reads_pd 59 b.2 _ _ _ (okz b List.mem_cons_self) hr
    subst h0
    exact ⟨[], PyProof.Rows.Reads.keeps hk hr, List.not_mem_nil⟩
theorem sort_tail (I : L2.Inv X pins σ H s) (hu : X.A.units + 66 < cLine) (S : Sim X.K H M) (c : Cont X.K H M Qu Q) {vs : List V} {us : List Value} {ws : List U} (rv : Vals vs us) (rl : RelL X.K H vs ws) (ok : sortOk ws) (hq : ∀ a, M a = none → Qu (.ref a) (um M a (.lst (sortU ws))))
    {h1 : Heap} {tk : Nat} (hk : ∀ (b : Addr) (u : Obj), s.heap.get? b = some u → h1.get? b = some u) :
    wpAny (model X.prog X.w) X.A.in1 (newList us >>= fun l => holding [l] (call (.builtin "list.sort") [l]) >>= fun _ => PySem.ret l) (fun fin s' => ∃ v, fin = Fin.done (Flow.ret v) ∧ EP X pins σ Q v s') X.xe ⟨h1, s.gens, s.drawn, tk, s.os⟩ := by
  obtain ⟨ok1, ok2, ok3, ok4⟩ := ok
  have okA : ∀ x ∈ ws, x.ok 59 = true := List.all_eq_true.mp ok1
  have I1 : L2.Inv X pins σ H ⟨h1, s.gens, s.drawn, tk, s.os⟩ := I.kept hk
  have el : vs.length = ws.length := rl.length
  have e1 : W.EachIs (fun u (b : V × U) => RelV b.1 u) us (vs.zip ws) := each_of rv el
  have eu : us.length = ws.length := by rw [e1.length, List.length_zip, el, Nat.min_self]
  have esnd : (vs.zip ws).map (fun b => pd b.2) = ws.map pd := by
    rw [show (fun b : V × U => pd b.2) = pd ∘ Prod.snd from rfl, ← List.map_map, List.map_snd_zip (by omega)]
  have hL : us.length ≤ sizeLine := by rw [eu, sizeLine_eq]; unfold LIM at ok4; omega
  refine wpAny_bind (wpAny_newList ?_ hL)
  have hoL : (h1.push (PyProof.Rows.seqObj "list" us.toArray 0)).get? h1.objs.size = some (PyProof.Rows.seqObj "list" us.toArray 0) := Heap.get?_push_size h1 rfl
  refine wpAny_bind (wpAny_holding (W.list_sort_data (n := 0) (bs := vs.zip ws) (enc := fun b => pd b.2) (R := fun u b => RelV b.1 u) hoL e1 ?_ (by rw [esnd]; exact ok2) (by rw [esnd]; exact ok3) (by rw [← e1.length]; exact hL) ?_ ?_))
  · exact each_reads I1 (fun b o e => Heap.get?_push_of_some _ e) _ e1 (relL_zip rl) (fun b hb => okA _ (List.of_mem_zip hb).2)
  · intro b hb
    have := (ok_lay 59 b.2 (okA _ (List.of_mem_zip hb).2)).2
    show X.A.units + 1 + 1 + _ < _
    omega
  · intro out hlen heach
    obtain ⟨e', he'⟩ := PyProof.Rows.sortedHeap_at (out := out.toArray) hoL
    have hs : ((vs.zip ws).mergeSort (W.dataLe false fun b => pd b.2)).map Prod.snd = sortU ws := by
      have := W.sort_maps (r := W.dataLe false fun b : V × U => pd b.2) (s := W.dataLe false pd) Prod.snd (l := vs.zip ws) (fun a _ b _ => rfl)
      rw [this, List.map_snd_zip (by omega)]
      rfl
    have hrel : RelL X.K H (((vs.zip ws).mergeSort (W.dataLe false fun b => pd b.2)).map Prod.fst) (sortU ws) := by
      rw [← hs]
      exact relL_of_all fun b hb => relL_zip rl b (List.mem_mergeSort.mp hb)
    have hout := each_rev heach
    refine wpAny_pure ⟨_, rfl, V.ref h1.objs.size, upd H h1.objs.size (.lst (((vs.zip ws).mergeSort (W.dataLe false fun b => pd b.2)).map Prod.fst)), ?_, rfl, c.lst S hrel hq (I1.hok.fresh (Nat.le_refl _))⟩
    refine I1.laid (fun b u e => ?_) (Nat.le_refl _) ⟨?_, out, e', hout, he'⟩
    · have hb := Heap.lt_size e
      rw [PyProof.Rows.sortedHeap_old (Nat.ne_of_lt hb) (by rw [PyProof.Rows.size_push']; exact Nat.lt_succ_of_lt hb)]
      exact Heap.get?_push_of_some _ e
    · rw [hrel.length]
      unfold sortU
      rw [List.length_mergeSort, ← eu]
      exact hL
theorem vals1R {K : Fg} {H : Hp} {xs : List V} {u : U} (r : RelL K H xs [u]) : ∃ v, xs = [v] ∧ Rel K H v u := by
  cases r with
  | cons a b => cases b; exact ⟨_, rfl, a⟩
theorem vals_pt : ∀ {as : List V} {us : List Value}, as.length = us.length → (∀ (j : Nat) (a : V) (u : Value), as[j]? = some a → us[j]? = some u → RelV a u) → Vals as us
  | [], [], _, _ => .nil
  | a :: as, u :: us, h, p => .cons (p 0 a u rfl rfl) (vals_pt (by simpa using h) fun j a' u' h1 h2 => p (j + 1) a' u' (by simpa using h1) (by simpa using h2))
  | [], _ :: _, h, _ => by cases h
  | _ :: _, [], h, _ => by cases h
theorem relT_keys {K : Fg} {H : Hp} : ∀ {kvs : List (List Key × V)} {xs : List (List Key × Addr × Value)} {ks : List (U × U)}, KT H kvs xs → RelT K H kvs ks → RelL K H (xs.map fun x => V.ref x.2.1) (ks.map (·.1))
  | [], _, _, k, r => by unfold RelT at r; cases k; cases r; exact .nil
  | (k, v) :: kvs, _, _, kt, r => by
    unfold RelT at r
    cases kt with
    | cons a b => cases r with
      | @cons p q ps qs c d =>
        rw [List.map_cons, List.map_cons]
        refine .cons ?_ (relT_keys b d)
        rw [c.1]
        exact .tup a.2.1 (relL_keys k)
theorem cr_sortedS (hc : X.calm = true) (hu : X.A.units + 66 < cLine) : CallR X (.builtin "sorted") (CRs X.K (bltW .sorted)) := by
  intro pins s σ H xs us Q I r h
  obtain ⟨as, M, Qu, S, ra, hf, c⟩ := h
  unfold bltW at hf
  split at hf <;> first | (rename_i e; cases e; done) | skip
  · obtain ⟨v, rfl, rv⟩ := vals1R ra
    cases rv
    rename_i p _
    obtain ⟨u, rfl, ru⟩ := vals1 r
    have eu : u = Value.ref p := ru
    subst eu
    refine Calls.call_function_entry PyProof.Rows.kind_sorted PyProof.Rows.plain_sorted PyProof.Rows.entry_sorted (PyProof.Rows.args_sorted1 _) ?_
    refine wpAny_bind (wpAny_pure (wpAny_bind ?_))
    rcases hf with ⟨ws, h1, ok, q⟩ | ⟨t, ks, h1, ok, q⟩
    · obtain ⟨vs, e, rl⟩ := S _ _ h1
      have ob := I.hok _ _ e
      simp only [ObjOk] at ob
      obtain ⟨hlen, its, x, vals, get⟩ := ob
      have hl : its.length ≤ sizeLine := by rw [← vals.length]; exact hlen
      refine PyProof.Rows.collect_list (vs := its) ⟨_, get, rfl, _, rfl⟩ ?_ hl
      exact sort_tail I hu S c vals rl ok q fun b o e => by
        rw [Heap.get?_update_ne _ _ _ _ (Nat.ne_of_lt (Heap.lt_size e))]
        exact Heap.get?_push_of_some _ e
    · have q0 := S _ _ h1
      cases t with
      | false =>
        obtain ⟨kvs, e, rl⟩ := q0
        obtain ⟨z, lo, vs, rel, dd⟩ := dk_rd I.hok (.inl e)
        obtain ⟨ep, hat⟩ := dd.dictAt
        have el : vs.length = kvs.length := (Paired.length rel).symm
        refine W.kdu_collect (W.kdl_dict lo) (I.ok.hd hc) hat (by rw [el]; exact z) fun h' tk acc hk hacc => ?_
        refine sort_tail I hu S c (vals_pt (as := kvs.map fun kv => kV kv.1) ?_ fun j a u ha hu' => ?_) (relK_keys rl) ok q hk
        · have h5 := hacc.1
          show (kvs.map _).length = acc.toList.length
          rw [List.length_map, ← el, ← h5]
          exact Array.length_toList.symm
        · rw [Array.getElem?_toList] at hu'
          obtain ⟨k, x, e1, e2⟩ := hacc.2 j u hu'
          rw [List.getElem?_map] at ha
          cases h2 : kvs[j]? with
          | none => rw [h2] at ha; cases ha
          | some kv =>
            rw [h2] at ha
            cases ha
            obtain ⟨kv', h3, h4⟩ := paired_get rel h2
            rw [h3] at e1
            cases e1
            show RelV (kV kv.1) u
            rw [h4.1]
            cases k with
            | inl i =>
              obtain ⟨t, et⟩ := Value.isInt_shape e2
              exact ⟨t, et⟩
            | inr x =>
              obtain ⟨t, et⟩ := Value.isStrOf_shape e2
              exact ⟨t, et⟩
      | true =>
        obtain ⟨kvs, e, rl⟩ := q0
        obtain ⟨z, lo, xs, rel, o, es, ep, g1, g2, g3, g4, g5, g6⟩ := dt_rd I.hok (.inl e)
        have el : xs.length = kvs.length := (Paired.length rel).symm
        have esl : es.size = xs.length := by rw [← Array.length_toList, g4, List.length_map]
        refine W.kdu_collect (PySem.KdlSrc.rawDict (es := es) (ep := ep) lo) (I.ok.hd hc) ⟨o, g1, g2, g3⟩ (by rw [esl, el]; exact z) fun h' tk acc hk hacc => ?_
        refine sort_tail I hu S c (vals_pt (as := xs.map fun x => V.ref x.2.1) ?_ fun j a u ha hu' => ?_) (relT_keys rel rl) ok q hk
        · have h5 := hacc.1
          show (xs.map _).length = acc.toList.length
          rw [List.length_map, ← esl, ← h5]
          exact Array.length_toList.symm
        · rw [Array.getElem?_toList] at hu'
          obtain ⟨hi, e1⟩ := hacc.2 j u hu'
          rw [List.getElem?_map] at ha
          cases h2 : xs[j]? with
          | none => rw [h2] at ha; cases ha
          | some x =>
            rw [h2] at ha
            cases ha
            have e3 : es.toList[j]? = some (entryOfKey (tupleKind (mixKind X.prog X.w)) x) := by rw [g4, List.getElem?_map, h2]; rfl
            rw [Array.getElem?_toList, Array.getElem?_eq_getElem hi] at e3
            rw [e1, Option.some.inj e3]
            rfl
  · exact hf.elim
end
end Pl

set_option maxHeartbeats 4000000
namespace Pl
open PySem L2
/-- a method by values: the receiver's reading and the arguments' stand apart -/
def MRs (K : Fg) (g : U → List U → Hm → QU → Prop) : V → List V → Hp → VK → Prop := fun x xs H Q => ∃ a us M Qu, Sim K H M ∧ Rel K H x a ∧ RelL K H xs us ∧ g a us M Qu ∧ Cont K H M Qu Q
def SlS (K : Fg) : V → Option Int → Option Int → Hp → VK → Prop := fun x lo hi H Q => ∃ a M Qu, Sim K H M ∧ Rel K H x a ∧ sliceW a lo hi M Qu ∧ Cont K H M Qu Q
section
variable {X : Cx}
theorem cut_rel {K : Fg} {H : Hp} {vs : List V} {us : List U} (r : RelL K H vs us) (lo hi : Option Int) : RelL K H (cutV vs lo hi) (cutU us lo hi) := by
  unfold cutV cutU
  rw [r.length]
  exact (r.drop _).take _
theorem cut_whole {us : List U} {lo hi : Option Int} (h : HT.sIx us.length 0 lo = 0 ∧ HT.sIx us.length us.length hi = us.length) : cutU us lo hi = us := by
  unfold cutU
  rw [h.1, h.2]
  simp
theorem sl_S : SlR X (SlS X.K) := by
  intro pins s σ H x v vl vu lo hi sl Q I rx hs pl pu h
  obtain ⟨a, M, Qu, S, ra, hf, c⟩ := h
  unfold sliceW at hf
  split at hf
  · rename_i l
    cases ra with
    | tup t r =>
      refine sl_tupA pins s σ H _ v vl vu lo hi sl Q I rx hs pl pu ⟨_, _, rfl, t.sq, fun hw => ?_, fun _ p hp => c.tup S (cut_rel r lo hi) hf hp⟩
      rw [r.length] at hw
      rw [cut_whole hw] at hf
      exact c.at_ S (.tup t r) hf
  · obtain ⟨us, h1, q⟩ := hf
    obtain ⟨vs, e, r⟩ := S _ _ h1
    cases ra
    exact sl_list pins s σ H _ v vl vu lo hi sl Q I rx hs pl pu ⟨_, _, rfl, .inl (.inl e), fun p hp => c.lst S (cut_rel r lo hi) q hp⟩
  · exact hf.elim
/-- o[i] = v -/
def SetS (K : Fg) : TSet := fun o i v H Q => ∃ a b u M Qu, Sim K H M ∧ Rel K H o a ∧ Rel K H i b ∧ Rel K H v u ∧ setW a b u M Qu ∧ ∀ H' M', Stp H M H' M' → Sim K H' M' → Qu M' → Q H'
theorem set_S (hu : X.A.units + 1 < cLine) : PSet X (SetS X.K) := by
  intro pins s σ H o i v ov iv u Q I ro ri rv h
  obtain ⟨a, b, u', M, Qu, S, ra, rb, ru, hf, c⟩ := h
  unfold setW at hf
  split at hf
  · rcases hf with ⟨us, j, k, h1, rfl, e, q⟩ | ⟨t, ks, h1, h2, h3, q⟩
    · obtain ⟨vs, e1, r⟩ := S _ _ h1
      cases ra
      cases rb
      refine set_list pins s σ H _ _ v ov iv u Q I ro ri rv ⟨_, vs, j, k, rfl, rfl, e1, by rw [r.length]; exact e, ?_⟩
      exact c _ _ (Stp.mut h1) (S.mut (m := .lst (us.set k u')) h1 rfl ⟨_, upd_same, (r.set k ru).stp S (Stp.mut (m := .lst (us.set k u')) h1)⟩) q
    · obtain ⟨H', g, st, S'⟩ := dput_of S h1 h2 rb ru h3
      cases ra
      obtain rfl : ov = Value.ref _ := ro
      exact d_setItem hu I g ri rv fun s' I' => ⟨H', I', c _ _ st S' q⟩
  · exact hf.elim
/-! ### built-ins -/
theorem vals2R {K : Fg} {H : Hp} {xs : List V} {u w : U} (r : RelL K H xs [u, w]) : ∃ v y, xs = [v, y] ∧ Rel K H v u ∧ Rel K H y w := by
  cases r with
  | cons a b => obtain ⟨y, rfl, q⟩ := vals1R b; exact ⟨_, y, rfl, a, q⟩
def bfnV : Bfn → Option Value
  | .len => some (.builtin "len")
  | .list => some (.type "list")
  | .tuple => some (.type "tuple")
  | .int => some (.type "int")
  | .abs => some (.builtin "abs")
  | .max => some (.builtin "max")
  | .min => some (.builtin "min")
  | .sorted => some (.builtin "sorted")
  | _ => none
theorem cr_len : CallR X (.builtin "len") (CRs X.K (bltW .len)) := by
  intro pins s σ H xs us Q I r h
  obtain ⟨as, M, Qu, S, ra, hf, c⟩ := h
  unfold bltW at hf
  split at hf <;> first | (rename_i e; cases e; done) | skip
  · rename_i e
    obtain ⟨v, rfl, rv⟩ := vals1R ra
    cases rv with
    | tup t rl =>
      refine call_len_seq pins s σ H _ us Q I r ⟨_, _, rfl, .inr t.sq, ?_⟩
      rw [rl.length]
      exact c.at_ S (.int _) hf
  · obtain ⟨v, rfl, rv⟩ := vals1R ra
    cases rv
    exact call_len_str pins s σ H _ us Q I r ⟨_, rfl, le_line hf.1, c.at_ S (.int _) hf.2⟩
  · obtain ⟨v, rfl, rv⟩ := vals1R ra
    cases rv
    rcases hf with ⟨ws, h1, q⟩ | ⟨ks, h1, q⟩
    · obtain ⟨vs, e, rl⟩ := S _ _ h1
      refine call_len_seq pins s σ H _ us Q I r ⟨_, _, rfl, .inl (.inl (.inl e)), ?_⟩
      rw [rl.length]
      exact c.at_ S (.int _) q
    · obtain ⟨kvs, e, rl⟩ := S _ _ h1
      refine call_lenD pins s σ H _ us Q I r ⟨_, _, rfl, e, ?_⟩
      rw [RelK.len rl]
      exact c.at_ S (.int _) q
  · exact hf.elim
theorem cr_listS (hc : X.calm = true) : CallR X (.type "list") (CRs X.K (bltW .list)) := by
  intro pins s σ H xs us Q I r h
  obtain ⟨as, M, Qu, S, ra, hf, c⟩ := h
  unfold bltW at hf
  split at hf <;> first | (rename_i e; cases e; done) | skip
  · obtain ⟨v, rfl, rv⟩ := vals1R ra
    cases rv with
    | tup t rl => exact call_list_of pins s σ H _ us Q I r ⟨_, _, rfl, .inr t.sq, fun l hl => c.lst S rl hf hl⟩
  · obtain ⟨v, rfl, rv⟩ := vals1R ra
    cases rv
    rcases hf with ⟨ws, h1, q⟩ | ⟨ks, h1, q⟩
    · obtain ⟨vs, e, rl⟩ := S _ _ h1
      exact call_list_of pins s σ H _ us Q I r ⟨_, _, rfl, .inl (.inl (.inl e)), fun l hl => c.lst S rl q hl⟩
    · obtain ⟨kvs, e, rl⟩ := S _ _ h1
      exact call_list_dK hc pins s σ H _ us Q I r ⟨_, _, rfl, e, fun l hl => c.lst S (relK_keys rl) q hl⟩
  · exact hf.elim
theorem cr_tupleS : CallR X (.type "tuple") (CRs X.K (bltW .tuple)) := by
  intro pins s σ H xs us Q I r h
  obtain ⟨as, M, Qu, S, ra, hf, c⟩ := h
  unfold bltW at hf
  split at hf <;> first | (rename_i e; cases e; done) | skip
  · obtain ⟨v, rfl, rv⟩ := vals1R ra
    cases rv with
    | tup t rl => exact call_tuple_of pins s σ H _ us Q I r ⟨_, _, rfl, .inr ⟨t.sq, c.at_ S (.tup t rl) hf⟩⟩
  · obtain ⟨v, rfl, rv⟩ := vals1R ra
    cases rv
    obtain ⟨ws, h1, q⟩ := hf
    obtain ⟨vs, e, rl⟩ := S _ _ h1
    exact call_tuple_of pins s σ H _ us Q I r ⟨_, _, rfl, .inl ⟨.inl (.inl e), fun l hl => c.tup S rl q hl⟩⟩
  · exact hf.elim
theorem cr_intS : CallR X (.type "int") (CRs X.K (bltW .int)) := by
  intro pins s σ H xs us Q I r h
  obtain ⟨as, M, Qu, S, ra, hf, c⟩ := h
  unfold bltW at hf
  split at hf <;> first | (rename_i e; cases e; done) | skip
  · obtain ⟨v, rfl, rv⟩ := vals1R ra
    cases rv
    exact call_int1 pins s σ H _ us Q I r (.inl ⟨_, rfl, c.at_ S (.int _) hf⟩)
  · obtain ⟨v, rfl, rv⟩ := vals1R ra
    cases rv
    exact call_int1 pins s σ H _ us Q I r (.inr ⟨_, rfl, c.at_ S (.int _) hf⟩)
  · exact hf.elim
theorem cr_absS : CallR X (.builtin "abs") (CRs X.K (bltW .abs)) := by
  intro pins s σ H xs us Q I r h
  obtain ⟨as, M, Qu, S, ra, hf, c⟩ := h
  unfold bltW at hf
  split at hf <;> first | (rename_i e; cases e; done) | skip
  · obtain ⟨v, rfl, rv⟩ := vals1R ra
    cases rv
    exact call_abs pins s σ H _ us Q I r ⟨_, rfl, c.at_ S (.int _) hf⟩
  · exact hf.elim
theorem cr_maxS (hc : X.calm = true) : CallR X (.builtin "max") (CRs X.K (bltW .max)) := by
  intro pins s σ H xs us Q I r h
  obtain ⟨as, M, Qu, S, ra, hf, c⟩ := h
  unfold bltW at hf
  split at hf <;> first | (rename_i e; cases e; done) | skip
  · obtain ⟨v, y, rfl, rv, ry⟩ := vals2R ra
    cases rv; cases ry
    exact call_max2 hc pins s σ H _ us Q I r ⟨_, _, rfl, c.at_ S (.int _) hf⟩
  · exact hf.elim
theorem cr_minS (hc : X.calm = true) : CallR X (.builtin "min") (CRs X.K (bltW .min)) := by
  intro pins s σ H xs us Q I r h
  obtain ⟨as, M, Qu, S, ra, hf, c⟩ := h
  unfold bltW at hf
  split at hf <;> first | (rename_i e; cases e; done) | skip
  · obtain ⟨v, y, rfl, rv, ry⟩ := vals2R ra
    cases rv; cases ry
    exact call_min2 hc pins s σ H _ us Q I r ⟨_, _, rfl, c.at_ S (.int _) hf⟩
  · exact hf.elim
theorem cr_S (hc : X.calm = true) (hu : X.A.units + 66 < cLine) {f : Bfn} {v : Value} (h : bfnV f = some v) : CallR X v (CRs X.K (bltW f)) := by
  cases f <;> first | (cases h; done) | skip
  · cases h; exact cr_len
  · cases h; exact cr_listS hc
  · cases h; exact cr_tupleS
  · cases h; exact cr_intS
  · cases h; exact cr_absS
  · cases h; exact cr_maxS hc
  · cases h; exact cr_minS hc
  · cases h; exact cr_sortedS hc hu
/-! ### methods -/
/-- the receiver's type, where the method is called -/
def mfnT : Mfn → Option (String × Str × String)
  | .append => some ("list", "append", "list.append")
  | .extend => some ("list", "extend", "list.extend")
  | .pop => some ("list", "pop", "list.pop")
  | .popAt => some ("list", "pop", "list.pop")
  | .split => some ("str", "split", "str.split")
  | _ => none
theorem mt_appendS : MtR X "list.append" (MRs X.K (mthW .append)) := by
  intro pins s σ H x xs v us Q I r rs h
  obtain ⟨a, bs, M, Qu, S, ra, rb, hf, c⟩ := h
  unfold mthW at hf
  split at hf <;> first | (rename_i e; cases e; done) | skip
  · obtain ⟨ws, h1, h2, q⟩ := hf
    obtain ⟨y, rfl, ry⟩ := vals1R rb
    obtain ⟨vs, e, rl⟩ := S _ _ h1
    cases ra
    exact mt_append pins s σ H _ _ v us Q I r rs ⟨_, vs, y, rfl, rfl, e, by rw [rl.length]; exact lt_line h2, c.mutL S h1 (rl.append (.cons ry .nil)) .non q⟩
  · exact hf.elim
theorem mt_extendS : MtR X "list.extend" (MRs X.K (mthW .extend)) := by
  intro pins s σ H x xs v us Q I r rs h
  obtain ⟨a, bs, M, Qu, S, ra, rb, hf, c⟩ := h
  unfold mthW at hf
  split at hf <;> first | (rename_i e; cases e; done) | skip
  · obtain ⟨ws, zs, h1, h2, h3, q⟩ := hf
    obtain ⟨y, rfl, ry⟩ := vals1R rb
    obtain ⟨vs, e, rl⟩ := S _ _ h1
    obtain ⟨ys, e2, rl2⟩ := S _ _ h2
    cases ra; cases ry
    exact mt_extend pins s σ H _ _ v us Q I r rs ⟨_, _, vs, ys, rfl, rfl, e, e2, by rw [rl.length, rl2.length]; exact le_line h3, c.mutL S h1 (rl.append rl2) .non q⟩
  · exact hf.elim
theorem mt_popS : MtR X "list.pop" (MRs X.K (mthW .pop)) := by
  intro pins s σ H x xs v us Q I r rs h
  obtain ⟨a, bs, M, Qu, S, ra, rb, hf, c⟩ := h
  unfold mthW at hf
  split at hf <;> first | (rename_i e; cases e; done) | skip
  · obtain ⟨ws, y, h1, h2, q⟩ := hf
    cases rb
    obtain ⟨vs, e, rl⟩ := S _ _ h1
    obtain ⟨z, e2, rz⟩ := rl.get h2
    cases ra
    exact mt_pop pins s σ H _ _ v us Q I r rs ⟨_, vs, z, rfl, rfl, e, by rw [rl.length]; exact e2, c.mutL S h1 rl.dropLast rz q⟩
  · exact hf.elim
theorem mt_popAtS : MtR X "list.pop" (MRs X.K (mthW .popAt)) := by
  intro pins s σ H x xs v us Q I r rs h
  obtain ⟨a, bs, M, Qu, S, ra, rb, hf, c⟩ := h
  unfold mthW at hf
  split at hf <;> first | (rename_i e; cases e; done) | skip
  · obtain ⟨ws, k, y, h1, h2, h3, h4, q⟩ := hf
    obtain ⟨y2, rfl, ry⟩ := vals1R rb
    obtain ⟨vs, e, rl⟩ := S _ _ h1
    obtain ⟨z, e2, rz⟩ := rl.get h4
    obtain ⟨e3, e4, e5, e6⟩ := ixN_seq h3
    have hl : LIM = 100000 := rfl
    cases ra; cases ry
    exact mt_popAt pins s σ H _ _ v us Q I r rs ⟨_, vs, _, k, z, rfl, rfl, e, by omega, by omega, by rw [rl.length]; exact e3, e2, c.mutL S h1 (rl.eraseIdx k) rz q⟩
  · exact hf.elim
theorem mt_splitS : MtR X "str.split" (MRs X.K (mthW .split)) := by
  intro pins s σ H x xs v us Q I r rs h
  obtain ⟨a, bs, M, Qu, S, ra, rb, hf, c⟩ := h
  unfold mthW at hf
  split at hf <;> first | (rename_i e; cases e; done) | skip
  · obtain ⟨h1, h2, q⟩ := hf
    obtain ⟨y, rfl, ry⟩ := vals1R rb
    cases ra; cases ry
    exact mt_split pins s σ H _ _ v us Q I r rs ⟨_, _, rfl, rfl, h1, le_line h2, fun p hp => c.lst S (RelL.strs _) q hp⟩
  · exact hf.elim
/-! ### isinstance -/
def IsS (K : Fg) (t : String) : V → Hp → (Bool → Hp → Prop) → Prop := fun x H Q => ∃ a M Qu, Sim K H M ∧ Rel K H x a ∧ isTyW a t M Qu ∧ ContB K H M Qu Q
def tyOk (t : String) : Bool := t == "tuple" || t == "str" || t == "int" || t == "bool" || t == "list"
theorem isTy_of {K : Fg} {t : String} {x : V} {H : Hp} {Q : Bool → Hp → Prop} (ht : tyOk t = true) (h : IsS K t x H Q) : ∃ ty b, TyX K H x ty ∧ PySem.W.kitOne K ty (.type t) = some b ∧ Q b H := by
  obtain ⟨a, M, Qu, S, r, hf, c⟩ := h
  have ht2 : t = "tuple" ∨ t = "str" ∨ t = "int" ∨ t = "bool" ∨ t = "list" := by
    unfold tyOk at ht
    simp only [Bool.or_eq_true, beq_iff_eq] at ht
    rcases ht with (((h | h) | h) | h) | h
    · exact .inl h
    · exact .inr (.inl h)
    · exact .inr (.inr (.inl h))
    · exact .inr (.inr (.inr (.inl h)))
    · exact .inr (.inr (.inr (.inr h)))
  unfold isTyW at hf
  split at hf
  · cases r
    refine ⟨_, _, .base .non, ?_, c _ _ _ (Stp.refl H M) S hf⟩
    rcases ht2 with rfl | rfl | rfl | rfl | rfl <;> exact kit_ty (by decide +kernel)
  · cases r
    refine ⟨_, _, .base (.bl _), ?_, c _ _ _ (Stp.refl H M) S hf⟩
    rcases ht2 with rfl | rfl | rfl | rfl | rfl <;> exact kit_ty (by decide +kernel)
  · cases r
    refine ⟨_, _, .base (.int _), ?_, c _ _ _ (Stp.refl H M) S hf⟩
    rcases ht2 with rfl | rfl | rfl | rfl | rfl <;> exact kit_ty (by decide +kernel)
  · cases r
    refine ⟨_, _, .base (.str _), ?_, c _ _ _ (Stp.refl H M) S hf⟩
    rcases ht2 with rfl | rfl | rfl | rfl | rfl <;> exact kit_ty (by decide +kernel)
  · cases r with
    | tup t1 r1 =>
      refine ⟨_, _, .base (.tup t1), ?_, c _ _ _ (Stp.refl H M) S hf⟩
      rcases ht2 with rfl | rfl | rfl | rfl | rfl <;> exact kit_ty (by decide +kernel)
  · obtain ⟨us, h1, q⟩ := hf
    obtain ⟨vs, e, rl⟩ := S _ _ h1
    cases r
    refine ⟨_, _, .base (.lst e), ?_, c _ _ _ (Stp.refl H M) S q⟩
    rcases ht2 with rfl | rfl | rfl | rfl | rfl <;> exact kit_ty (by decide +kernel)
  · exact hf.elim
end
end Pl

set_option maxHeartbeats 4000000
/-! expressions: the text against the small syntax -/
namespace Pl
open PySem L2
def RelS (K : Fg) (H : Hp) (σ : L2.St) (σu : SU) : Prop := σ.length = σu.length ∧ ∀ (i : Nat) (u : U), σu[i]? = some (some u) → ∃ v, σ[i]? = some (some v) ∧ Rel K H v u
theorem RelS.stp {K : Fg} {H H' : Hp} {M M' : Hm} {σ : L2.St} {σu : SU} (S : Sim K H M) (t : Stp H M H' M') (h : RelS K H σ σu) : RelS K H' σ σu :=
  ⟨h.1, fun i u e => let ⟨v, a, b⟩ := h.2 i u e; ⟨v, a, b.stp S t⟩⟩
theorem RelS.set {K : Fg} {H : Hp} {σ : L2.St} {σu : SU} {v : V} {u : U} (h : RelS K H σ σu) (r : Rel K H v u) (i : Nat) : RelS K H (σ.set i (some v)) (σu.set i (some u)) :=
  ⟨by rw [List.length_set, List.length_set, h.1], fun j w e => by
    by_cases hj : i = j
    · subst hj
      by_cases hl : i < σu.length
      · rw [List.getElem?_set_self hl] at e
        cases e
        exact ⟨v, List.getElem?_set_self (by rw [h.1]; exact hl), r⟩
      · rw [List.getElem?_eq_none (by rw [List.length_set]; omega)] at e
        cases e
    · rw [List.getElem?_set_ne hj] at e ⊢
      exact h.2 j w e⟩
theorem RelS.wipe {K : Fg} {H : Hp} {σ : L2.St} {σu : SU} (h : RelS K H σ σu) : ∀ vs : List Nat, RelS K H (L2.wipe σ vs) (wipU σu vs)
  | [] => h
  | v :: vs => by
    have ih := RelS.wipe h vs
    unfold L2.wipe wipU
    refine ⟨by rw [List.length_set, List.length_set, ih.1], fun j w e => ?_⟩
    by_cases hj : v = j
    · subst hj
      by_cases hl : v < (wipU σu vs).length
      · rw [List.getElem?_set_self hl] at e
        cases e
      · rw [List.getElem?_eq_none (by rw [List.length_set]; omega)] at e
        cases e
    · rw [List.getElem?_set_ne hj] at e ⊢
      exact ih.2 j w e

def EvE (K : Fg) (t : TE) (f : WE) : Prop := ∀ (σ : L2.St) (H : Hp) (σu : SU) (M : Hm) (Qu : QU) (Q : VK), RelS K H σ σu → Sim K H M → f σu M Qu → Cont K H M Qu Q → t σ H Q
def EvT (K : Fg) (t : TT) (f : WT) : Prop := ∀ (σ : L2.St) (H : Hp) (σu : SU) (M : Hm) (Qu : Bool → Hm → Prop) (Q : Bool → Hp → Prop), RelS K H σ σu → Sim K H M → f σu M Qu → ContB K H M Qu Q → t σ H Q
def EvL (K : Fg) (t : TA) (f : WL) : Prop := ∀ (σ : L2.St) (H : Hp) (σu : SU) (M : Hm) (Qu : List U → Hm → Prop) (Q : List V → Hp → Prop), RelS K H σ σu → Sim K H M → f σu M Qu → ContL K H M Qu Q → t σ H Q
def ContO (K : Fg) (H : Hp) (M : Hm) (Qu : Option Int → Hm → Prop) (Q : Option Int → Hp → Prop) : Prop := ∀ o H' M', Stp H M H' M' → Sim K H' M' → Qu o M' → Q o H'
def EvO (K : Fg) (t : TO) (f : WO) : Prop := ∀ (σ : L2.St) (H : Hp) (σu : SU) (M : Hm) (Qu : Option Int → Hm → Prop) (Q : Option Int → Hp → Prop), RelS K H σ σu → Sim K H M → f σu M Qu → ContO K H M Qu Q → t σ H Q

def SE1 (X : Cx) (f : WE) (x : Expr) : Prop := ∃ t, PE X x t ∧ EvE X.K t f
def ST (X : Cx) (f : WT) (x : Expr) : Prop := ∃ t, PT X x t ∧ EvT X.K t f
def SE (X : Cx) (W : Wp) (x : Expr) : Prop := SE1 X W.e x ∧ ST X W.t x
def SA (X : Cx) (f : WL) (es : List Expr) : Prop := ∃ t, PA X es t ∧ EvL X.K t f
def SO (X : Cx) (f : WO) (e : Option Expr) : Prop := ∃ t, PO X e t ∧ EvO X.K t f

/-- its test is its value's truth -/
def plainT : Expr → Bool
  | .UnaryOp .Not _ _ => false
  | .BoolOp .. => false
  | .IfExp .. => false
  | .Compare .. => false
  | _ => true
section
variable {X : Cx}
theorem plainT_eq {e : Expr} (h : plainT e = true) (whole : Sem Value) : isTrue e X.env whole = (do let v ← whole; standAt e.pos; holding [v] (truthy v)) := by
  cases e with
  | UnaryOp op _ _ => cases op <;> first | (cases h; done) | rfl
  | BoolOp _ _ _ => cases h
  | IfExp _ _ _ _ => cases h
  | Compare _ _ _ _ => cases h
  | _ => rfl
theorem SE.ofE {f : WE} {x : Expr} (hx : plainT x = true) (h : SE1 X f x) : SE X (.ofE f) x := by
  refine ⟨h, ?_⟩
  obtain ⟨t, p, q⟩ := h
  refine ⟨_, pt_truth p (plainT_eq hx), fun σ H σu M Qu Q rs S hf c => ?_⟩
  exact q σ H σu M _ _ rs S hf fun v H' u M' st S' r hq => tru_of ⟨u, M', Qu, S', r, hq, c.tr S st⟩
theorem se_var {i : Nat} {x : Str} {pos : Pos} (hN : X.N[i]? = some x) (hv : Vis X.env.scope x) (hd : (x == ("__debug__" : Str)) = false) (hcd : (x == ("__classdict__" : Str)) = false) :
    SE1 X (fun σ M Q => ∃ u, σ[i]? = some (some u) ∧ Q u M) (.Name x pos) :=
  ⟨tVar i, pe_var hN hv hd hcd, fun σ H σu M Qu Q rs S ⟨u, e, q⟩ c =>
    let ⟨v, e1, r⟩ := rs.2 i u e
    ⟨v, e1, c.at_ S r q⟩⟩
theorem se_int {i : Int} {k : Nat} {pos : Pos} : SE1 X (fun _ M Q => Q (.int i) M) (.Constant (.int i) k pos) := ⟨_, pe_int, fun _ _ _ _ _ _ _ S q c => c.at_ S (.int i) q⟩
theorem se_str {i : Str} {k : Nat} {pos : Pos} : SE1 X (fun _ M Q => Q (.str i) M) (.Constant (.str i) k pos) := ⟨_, pe_str, fun _ _ _ _ _ _ _ S q c => c.at_ S (.str i) q⟩
theorem se_bl {i : Bool} {k : Nat} {pos : Pos} : SE1 X (fun _ M Q => Q (.bl i) M) (.Constant (.bool i) k pos) := ⟨_, pe_bl, fun _ _ _ _ _ _ _ S q c => c.at_ S (.bl i) q⟩
theorem se_non {k : Nat} {pos : Pos} : SE1 X (fun _ M Q => Q .non M) (.Constant .none k pos) := ⟨_, pe_non, fun _ _ _ _ _ _ _ S q c => c.at_ S .non q⟩
theorem sa_nil : SA X (fun _ M Q => Q [] M) [] := ⟨_, pa_nil, fun _ H _ M _ _ _ S q c => c _ _ _ _ (Stp.refl H M) S .nil q⟩
def isStar : Expr → Bool
  | .Starred .. => true
  | _ => false
theorem star_cons {e : Expr} {es : List Expr} {env : Env} (h : isStar e = false) : starEach (e :: es) env = (false, eval e env) :: starEach es env := by
  cases e <;> first | (cases h; done) | rfl
theorem star_plain {env : Env} {pos : Pos} : ∀ {es : List Expr}, es.all (fun e => !isStar e) = true → (backTo pos (starEach es env)).any (·.1) = false
  | [], _ => rfl
  | e :: es, h => by
    rw [List.all_cons, Bool.and_eq_true] at h
    have h1 : isStar e = false := by simpa using h.1
    rw [star_cons h1]
    exact star_plain (es := es) h.2
theorem sa_cons {e : Expr} {es : List Expr} {f : WE} {g : WL} (hs : isStar e = false) (h1 : SE1 X f e) (h2 : SA X g es) : SA X (fun σ M Q => f σ M fun x M1 => g σ M1 fun xs M2 => Q (x :: xs) M2) (e :: es) := by
  obtain ⟨t1, p1, q1⟩ := h1
  obtain ⟨t2, p2, q2⟩ := h2
  refine ⟨_, pa_cons p1 p2 (star_cons hs), fun σ H σu M Qu Q rs S hf c => ?_⟩
  refine q1 σ H σu M _ _ rs S hf fun v H1 u M1 st S1 r hq => ?_
  refine q2 σ H1 σu M1 _ _ (rs.stp S st) S1 hq fun vs H2 us M2 st2 S2 rl hq2 => ?_
  exact c _ _ _ _ (st.trans S st2) S2 (.cons (r.stp S1 st2) rl) hq2
theorem se_tup {es : List Expr} {g : WL} {k : Nat} {pos : Pos} (h : SA X g es) : SE1 X (fun σ M Q => g σ M fun xs M1 => xs.length ≤ LIM ∧ Q (.tup xs) M1) (.Tuple es k pos) := by
  obtain ⟨t, p, q⟩ := h
  refine ⟨_, pe_tup p, fun σ H σu M Qu Q rs S hf c => ?_⟩
  refine q σ H σu M _ _ rs S hf fun vs H1 us M1 st S1 r hq => ?_
  exact ⟨by rw [r.length]; exact le_line hq.1, fun n hn => (c.tr S st).tup S1 r hq.2 hn⟩
theorem se_lst {es : List Expr} {g : WL} {pos : Pos} (h : SA X g es) : SE1 X (fun σ M Q => g σ M fun xs M1 => xs.length ≤ LIM ∧ ∀ p, M1 p = none → Q (.ref p) (um M1 p (.lst xs))) (.List es pos) := by
  obtain ⟨t, p, q⟩ := h
  refine ⟨_, pe_lst p, fun σ H σu M Qu Q rs S hf c => ?_⟩
  refine q σ H σu M _ _ rs S hf fun vs H1 us M1 st S1 r hq => ?_
  exact ⟨by rw [r.length]; exact le_line hq.1, fun n hn => (c.tr S st).lst S1 r hq.2 hn⟩
theorem se_dnew {t : Bool} {pos : Pos} : SE1 X (fun _ M Q => ∀ p, M p = none → Q (.ref p) (um M p (.dct false t []))) (.Dict [] [] pos) := by
  cases t with
  | false =>
    refine ⟨_, pe_dnewK, fun σ H σu M Qu Q rs S hf c p hp => ?_⟩
    exact c _ _ (.ref p) _ (Stp.new S hp) (S.new (m := .dct false false []) hp ⟨[], upd_same, .nil⟩) (.ref p) (hf p (S.fr hp))
  | true =>
    refine ⟨_, pe_dnewT, fun σ H σu M Qu Q rs S hf c p hp => ?_⟩
    exact c _ _ (.ref p) _ (Stp.new S hp) (S.new (m := .dct false true []) hp ⟨[], upd_same, .nil⟩) (.ref p) (hf p (S.fr hp))
theorem two {f g : WE} {ta tb : TE} (q1 : EvE X.K ta f) (q2 : EvE X.K tb g) {h : U → U → Hm → QU → Prop} : EvE X.K (tOp (R2s X.K h) ta tb) (fun σ M Q => f σ M fun x M1 => g σ M1 fun y M2 => h x y M2 Q) := fun σ H σu M Qu Q rs S hf c => by
  refine q1 σ H σu M _ _ rs S hf fun v H1 u M1 st S1 r hq => ?_
  refine q2 σ H1 σu M1 _ _ (rs.stp S st) S1 hq fun v2 H2 u2 M2 st2 S2 r2 hq2 => ?_
  exact ⟨u, u2, M2, Qu, S2, r.stp S1 st2, r2, hq2, c.tr S (st.trans S st2)⟩
theorem se_bin {op : Bop} {a b : Expr} {f g : WE} {pos : Pos} (h1 : SE1 X f a) (h2 : SE1 X g b) : SE1 X (fun σ M Q => f σ M fun x M1 => g σ M1 fun y M2 => binW op x y M2 Q) (.BinOp a (bopOf op) b pos) := by
  obtain ⟨t1, p1, q1⟩ := h1
  obtain ⟨t2, p2, q2⟩ := h2
  exact ⟨_, pe_op (op_binS op) p1 p2, two q1 q2⟩
theorem se_neg {a : Expr} {f : WE} {pos : Pos} (h1 : SE1 X f a) : SE1 X (fun σ M Q => f σ M fun x M1 => ∃ i, x = .int i ∧ Q (.int (-i)) M1) (.UnaryOp .USub a pos) := by
  obtain ⟨t1, p1, q1⟩ := h1
  refine ⟨_, pe_un un_neg p1, fun σ H σu M Qu Q rs S hf c => ?_⟩
  refine q1 σ H σu M _ _ rs S hf fun v H1 u M1 st S1 r hq => ?_
  obtain ⟨i, rfl, q⟩ := hq
  cases r
  exact ⟨i, rfl, (c.tr S st).at_ S1 (.int _) q⟩
theorem bl_same {Qu : Bool → Hm → Prop} : (fun (b : Bool) (M1 : Hm) => ∃ b', U.bl b = .bl b' ∧ Qu b' M1) = Qu := by
  funext b M1
  exact propext ⟨fun ⟨b', e, q⟩ => by cases e; exact q, fun q => ⟨b, rfl, q⟩⟩
/-- from a value that is a bool to a test -/
theorem ev_test {f : WT} {t : TE} (q : EvE X.K t (fun σ M Q => f σ M fun b M1 => Q (.bl b) M1)) : EvT X.K (tTest t) f := fun σ H σu M Qu Q rs S hf c => by
  refine q σ H σu M (fun u M' => ∃ b, u = .bl b ∧ Qu b M') _ rs S ?_ fun v H' u M' st S' r hq => ?_
  · show f σu M (fun (b : Bool) (M1 : Hm) => ∃ b', U.bl b = .bl b' ∧ Qu b' M1)
    rw [bl_same]
    exact hf
  · obtain ⟨b, rfl, hq⟩ := hq
    cases r
    exact ⟨b, rfl, c _ _ _ st S' hq⟩
theorem se_cmp {op : Cop} {a b : Expr} {f g : WE} {pos : Pos} (hu : X.A.units + 65 < cLine) (h1 : SE1 X f a) (h2 : SE1 X g b) (hm : behindInMarks (copOf op) b = false) :
    SE X (.ofB fun σ M Q => f σ M fun x M1 => g σ M1 fun y M2 => cmpW op x y M2 Q) (.Compare a [copOf op] [b] pos) := by
  obtain ⟨t1, p1, q1⟩ := h1
  obtain ⟨t2, p2, q2⟩ := h2
  have ev : EvE X.K (tOp (R2s X.K (asB (cmpW op))) t1 t2) (fun σ M Q => f σ M fun x M1 => g σ M1 fun y M2 => cmpW op x y M2 fun b M => Q (.bl b) M) := two q1 q2
  exact ⟨⟨_, pe_cmpR (op_cmpS hu op) p1 p2 hm, ev⟩, ⟨_, pt_cmpR (op_cmpS hu op) p1 p2 hm, ev_test ev⟩⟩
theorem se_chain {o1 o2 : Cop} {a b d : Expr} {f g h : WE} {pos : Pos} (hu : X.A.units + 65 < cLine) (h1 : SE1 X f a) (h2 : SE1 X g b) (h3 : SE1 X h d) (hm : lastMarks [copOf o1, copOf o2] [b, d] = false) :
    SE X (.ofB fun σ M Q => f σ M fun x M1 => g σ M1 fun y M2 => cmpW o1 x y M2 fun k M3 => if k = true then h σ M3 fun z M4 => cmpW o2 y z M4 Q else Q false M3) (.Compare a [copOf o1, copOf o2] [b, d] pos) := by
  obtain ⟨t1, p1, q1⟩ := h1
  obtain ⟨t2, p2, q2⟩ := h2
  obtain ⟨t3, p3, q3⟩ := h3
  have ev : EvE X.K (tChain (R2s X.K (asB (cmpW o1))) (R2s X.K (asB (cmpW o2))) t1 t2 t3) (fun σ M Q => f σ M fun x M1 => g σ M1 fun y M2 => cmpW o1 x y M2 fun k M3 => if k = true then h σ M3 fun z M4 => cmpW o2 y z M4 fun b M => Q (.bl b) M else Q (.bl false) M3) := fun σ H σu M Qu Q rs S hf c => by
    refine q1 σ H σu M _ _ rs S hf fun v H1 u M1 st S1 r hq => ?_
    refine q2 σ H1 σu M1 _ _ (rs.stp S st) S1 hq fun v2 H2 u2 M2 st2 S2 r2 hq2 => ?_
    refine ⟨u, u2, M2, fun b' M3 => ∃ k, b' = .bl k ∧ (if k = true then h σu M3 fun z M4 => cmpW o2 u2 z M4 fun b M => Qu (.bl b) M else Qu (.bl false) M3), S2, r.stp S1 st2, r2, ?_, ?_⟩
    · have e : (fun (k : Bool) (M3 : Hm) => ∃ k', U.bl k = .bl k' ∧ (if k' = true then h σu M3 fun z M4 => cmpW o2 u2 z M4 fun b M => Qu (.bl b) M else Qu (.bl false) M3)) = (fun k M3 => if k = true then h σu M3 fun z M4 => cmpW o2 u2 z M4 fun b M => Qu (.bl b) M else Qu (.bl false) M3) := by
        funext k M3
        exact propext ⟨fun ⟨k', e, q⟩ => by cases e; exact q, fun q => ⟨k, rfl, q⟩⟩
      show cmpW o1 u u2 M2 _
      rw [e]
      exact hq2
    · intro v3 H3 u3 M3 st3 S3 r3 hq3
      obtain ⟨k, rfl, hq3⟩ := hq3
      cases r3
      refine ⟨k, rfl, ?_⟩
      cases k with
      | false => exact c _ _ _ _ ((st.trans S st2).trans S st3) S3 (.bl _) hq3
      | true =>
        refine q3 σ H3 σu M3 _ _ (rs.stp S ((st.trans S st2).trans S st3)) S3 hq3 fun v4 H4 u4 M4 st4 S4 r4 hq4 => ?_
        exact ⟨u2, u4, M4, Qu, S4, (r2.stp S2 st3).stp S3 st4, r4, hq4, c.tr S (((st.trans S st2).trans S st3).trans S st4)⟩
  refine ⟨⟨_, pe_chain (op_cmpS hu o1) (op_cmpS hu o2) p1 p2 p3 hm, ?_⟩, ⟨_, pt_chain (op_cmpS hu o1) (op_cmpS hu o2) p1 p2 p3 hm, ev_test ?_⟩⟩
  · intro σ H σu M Qu Q rs S hf c
    exact ev σ H σu M Qu Q rs S hf c
  · intro σ H σu M Qu Q rs S hf c
    exact ev σ H σu M Qu Q rs S hf c
theorem rel_non {K : Fg} {H : Hp} {v : V} {u : U} (r : Rel K H v u) : decide (v = .non) = decide (u = .non) := by
  cases r <;> simp
theorem ev_isN {f : WE} {t : TE} (q1 : EvE X.K t f) : EvE X.K (tIsN t) (fun σ M Q => f σ M fun x M1 => Q (.bl (decide (x = .non))) M1) := fun σ H σu M Qu Q rs S hf c => by
  refine q1 σ H σu M _ _ rs S hf fun v H1 u M1 st S1 r hq => ?_
  rw [rel_non r]
  exact c _ _ _ _ st S1 (.bl _) hq
theorem ev_notN {f : WE} {t : TE} (q1 : EvE X.K t f) : EvE X.K (tNotN t) (fun σ M Q => f σ M fun x M1 => Q (.bl (!decide (x = .non))) M1) := fun σ H σu M Qu Q rs S hf c => by
  refine q1 σ H σu M _ _ rs S hf fun v H1 u M1 st S1 r hq => ?_
  rw [rel_non r]
  exact c _ _ _ _ st S1 (.bl _) hq
theorem se_isN {a : Expr} {f : WE} {k : Nat} {p1 pos : Pos} (h1 : SE1 X f a) : SE X (.ofB fun σ M Q => f σ M fun x M1 => Q (decide (x = .non)) M1) (.Compare a [.Is] [.Constant .none k p1] pos) := by
  obtain ⟨t1, p1, q1⟩ := h1
  exact ⟨⟨_, pe_cmp (pc_isN p1) rfl, ev_isN q1⟩, ⟨_, pt_cmp (pc_isN p1) rfl, ev_test (f := fun σ M Q => f σ M fun x M1 => Q (decide (x = .non)) M1) (ev_isN q1)⟩⟩
theorem se_notN {a : Expr} {f : WE} {k : Nat} {p1 pos : Pos} (h1 : SE1 X f a) : SE X (.ofB fun σ M Q => f σ M fun x M1 => Q (!decide (x = .non)) M1) (.Compare a [.IsNot] [.Constant .none k p1] pos) := by
  obtain ⟨t1, p1, q1⟩ := h1
  exact ⟨⟨_, pe_cmp (pc_notN p1) rfl, ev_notN q1⟩, ⟨_, pt_cmp (pc_notN p1) rfl, ev_test (f := fun σ M Q => f σ M fun x M1 => Q (!decide (x = .non)) M1) (ev_notN q1)⟩⟩
theorem se_isB {neg b : Bool} {a : Expr} {f : WE} {k : Nat} {p1 pos : Pos} (h1 : SE1 X f a) :
    SE X (.ofB fun σ M Q => f σ M fun x M1 => ∃ c, x = .bl c ∧ Q (if neg then !decide (c = b) else decide (c = b)) M1) (.Compare a [if neg then .IsNot else .Is] [.Constant (.bool b) k p1] pos) := by
  obtain ⟨t1, p1, q1⟩ := h1
  cases neg with
  | false =>
    have ev : EvE X.K (tOp rIsB t1 (tC (.bl b))) (fun σ M Q => f σ M fun x M1 => ∃ c, x = .bl c ∧ Q (.bl (decide (c = b))) M1) := fun σ H σu M Qu Q rs S hf c => by
      refine q1 σ H σu M _ _ rs S hf fun v H1 u M1 st S1 r hq => ?_
      obtain ⟨d, rfl, q⟩ := hq
      cases r
      exact ⟨d, b, rfl, rfl, c _ _ _ _ st S1 (.bl _) q⟩
    exact ⟨⟨_, pe_cmpR op_isBl p1 pe_bl (nomark _), ev⟩, ⟨_, pt_cmpR op_isBl p1 pe_bl (nomark _), ev_test (f := fun σ M Q => f σ M fun x M1 => ∃ c, x = .bl c ∧ Q (decide (c = b)) M1) ev⟩⟩
  | true =>
    have ev : EvE X.K (tOp rNotB t1 (tC (.bl b))) (fun σ M Q => f σ M fun x M1 => ∃ c, x = .bl c ∧ Q (.bl (!decide (c = b))) M1) := fun σ H σu M Qu Q rs S hf c => by
      refine q1 σ H σu M _ _ rs S hf fun v H1 u M1 st S1 r hq => ?_
      obtain ⟨d, rfl, q⟩ := hq
      cases r
      exact ⟨d, b, rfl, rfl, c _ _ _ _ st S1 (.bl _) q⟩
    exact ⟨⟨_, pe_cmpR op_notBl p1 pe_bl (nomark _), ev⟩, ⟨_, pt_cmpR op_notBl p1 pe_bl (nomark _), ev_test (f := fun σ M Q => f σ M fun x M1 => ∃ c, x = .bl c ∧ Q (!decide (c = b)) M1) ev⟩⟩
theorem se_not {a : Expr} {W : Wp} {pos : Pos} (h : SE X W a) : SE X ⟨fun σ M Q => bW W.e σ M fun b M1 => Q (.bl (!b)) M1, fun σ M Q => W.t σ M fun b M1 => Q (!b) M1, fun _ _ _ => False, fT, fT, fE, fE, fI⟩ (.UnaryOp .Not a pos) := by
  obtain ⟨⟨t1, p1, q1⟩, ⟨t2, p2, q2⟩⟩ := h
  refine ⟨⟨_, pe_not p1, fun σ H σu M Qu Q rs S hf c => ?_⟩, ⟨_, pt_not p2, fun σ H σu M Qu Q rs S hf c => ?_⟩⟩
  · refine q1 σ H σu M _ _ rs S hf fun v H1 u M1 st S1 r hq => ?_
    obtain ⟨b, rfl, q⟩ := hq
    cases r
    exact ⟨b, rfl, c _ _ _ _ st S1 (.bl _) q⟩
  · exact q2 σ H σu M _ _ rs S hf fun b H1 M1 st S1 hq => c _ _ _ st S1 hq
theorem se_ite {c0 a b : Expr} {fc : WT} {f g : WE} {pos : Pos} (hc : ST X fc c0) (h1 : SE1 X f a) (h2 : SE1 X g b) :
    SE1 X (fun σ M Q => fc σ M fun k M1 => if k = true then f σ M1 Q else g σ M1 Q) (.IfExp c0 a b pos) := by
  obtain ⟨t0, p0, q0⟩ := hc
  obtain ⟨t1, p1, q1⟩ := h1
  obtain ⟨t2, p2, q2⟩ := h2
  refine ⟨_, pe_ifExp p0 p1 p2, fun σ H σu M Qu Q rs S hf c => ?_⟩
  refine q0 σ H σu M _ _ rs S hf fun k H1 M1 st S1 hq => ?_
  cases k with
  | true => exact q1 σ H1 σu M1 Qu Q (rs.stp S st) S1 hq (c.tr S st)
  | false => exact q2 σ H1 σu M1 Qu Q (rs.stp S st) S1 hq (c.tr S st)
def notSlice : Expr → Bool
  | .Slice .. => false
  | _ => true
theorem plainIx_of {e : Expr} (h : notSlice e = true) : PlainIx e := fun o i => by
  cases e <;> first | (cases h; done) | rfl
theorem se_ix {a b : Expr} {f g : WE} {pos : Pos} (hu : X.A.units + 1 < cLine) (hs : notSlice b = true) (h1 : SE1 X f a) (h2 : SE1 X g b) : SE1 X (fun σ M Q => f σ M fun x M1 => g σ M1 fun y M2 => ixW x y M2 Q) (.Subscript a b pos) := by
  obtain ⟨t1, p1, q1⟩ := h1
  obtain ⟨t2, p2, q2⟩ := h2
  exact ⟨_, pe_ix (ix_S hu) p1 p2 (plainIx_of hs), two q1 q2⟩
theorem so_none : SO X (fun _ M Q => Q none M) none := ⟨_, po_none, fun σ H σu M Qu Q rs S hf c => c _ _ _ (Stp.refl H M) S hf⟩
theorem so_some {e : Expr} {f : WE} (h : SE1 X f e) : SO X (fun σ M Q => f σ M fun x M1 => ∃ i, x = .int i ∧ Q (some i) M1) (some e) := by
  obtain ⟨t, p, q⟩ := h
  refine ⟨_, po_some p, fun σ H σu M Qu Q rs S hf c => ?_⟩
  refine q σ H σu M _ _ rs S hf fun v H1 u M1 st S1 r hq => ?_
  obtain ⟨i, rfl, q⟩ := hq
  cases r
  exact ⟨i, rfl, c _ _ _ st S1 q⟩
theorem se_slice {a : Expr} {lo hi : Option Expr} {f : WE} {g h : WO} {p2 pos : Pos} (h1 : SE1 X f a) (h2 : SO X g lo) (h3 : SO X h hi) :
    SE1 X (fun σ M Q => f σ M fun x M1 => g σ M1 fun l M2 => h σ M2 fun u M3 => sliceW x l u M3 Q) (.Subscript a (.Slice lo hi none p2) pos) := by
  obtain ⟨t1, p1, q1⟩ := h1
  obtain ⟨t2, p2, q2⟩ := h2
  obtain ⟨t3, p3, q3⟩ := h3
  refine ⟨_, pe_slice sl_S p1 p2 p3, fun σ H σu M Qu Q rs S hf c => ?_⟩
  refine q1 σ H σu M _ _ rs S hf fun v H1 u M1 st S1 r hq => ?_
  refine q2 σ H1 σu M1 _ _ (rs.stp S st) S1 hq fun l H2 M2 st2 S2 hq2 => ?_
  refine q3 σ H2 σu M2 _ _ (rs.stp S (st.trans S st2)) S2 hq2 fun l3 H3 M3 st3 S3 hq3 => ?_
  exact ⟨u, M3, Qu, S3, (r.stp S1 st2).stp S2 st3, hq3, c.tr S ((st.trans S st2).trans S st3)⟩
/-- the promise of a def, said by values -/
def spOf (K : Fg) (g : List U → Hm → QU → Prop) : Sp := fun vs H Q _ => CRs K g vs H Q
theorem ev_call {g : WL} {t : TA} {r : List V → Hp → VK → Prop} {k : List U → Hm → QU → Prop} (q : EvL X.K t g) (hr : ∀ vs H Q, CRs X.K k vs H Q → r vs H Q) : EvE X.K (fun σ H Q => t σ H fun vs H1 => r vs H1 Q) (fun σ M Q => g σ M fun xs M1 => k xs M1 Q) := fun σ H σu M Qu Q rs S hf c => by
  refine q σ H σu M _ _ rs S hf fun vs H1 us M1 st S1 r1 hq => ?_
  exact hr _ _ _ ⟨us, M1, Qu, S1, r1, hq, c.tr S st⟩
theorem se_blt {f : Bfn} {v : Value} {x : Str} {e : Expr} {es : List Expr} {g : WL} {p pos : Pos} (hc : X.calm = true) (hu : X.A.units + 66 < cLine) (hb : bfnV f = some v) (hg : Gl X x) (hm : X.mg x = none) (hv : bootBuiltins x = some v) (hn : x ≠ "__name__") (hdb : (x == ("__debug__" : Str)) = false)
    (hs : (e :: es).all (fun e => !isStar e) = true) (h : SA X g (e :: es)) : SE1 X (fun σ M Q => g σ M fun xs M1 => bltW f xs M1 Q) (.Call (.Name x p) (e :: es) [] pos) := by
  obtain ⟨t, pt, q⟩ := h
  have hs2 : isStar e = false ∧ es.all (fun e => !isStar e) = true := by
    rw [List.all_cons, Bool.and_eq_true] at hs
    exact ⟨by simpa using hs.1, hs.2⟩
  have hr := cr_S (X := X) hc hu hb
  have bl : ∀ id, v = .builtin id → SE1 X (fun σ M Q => g σ M fun xs M1 => bltW f xs M1 Q) (.Call (.Name x p) (e :: es) [] pos) := fun id ev => by
    subst ev
    exact ⟨_, pe_callB hr hg hm hv pt hn hdb (star_cons hs2.1) (star_plain hs2.2), ev_call q fun _ _ _ z => z⟩
  have ty : ∀ id, v = .type id → SE1 X (fun σ M Q => g σ M fun xs M1 => bltW f xs M1 Q) (.Call (.Name x p) (e :: es) [] pos) := fun id ev => by
    subst ev
    exact ⟨_, pe_callTy hr hg hm hv pt hn hdb (star_cons hs2.1) (star_plain hs2.2), ev_call q fun _ _ _ z => z⟩
  cases f <;> first | (cases hb; done) | (cases hb; first | exact bl _ rfl | exact ty _ rfl)
theorem se_call {k : Nat} {f : Addr} {fd : FuncData} {ps : List Str} {x : Str} {e : Expr} {es : List Expr} {g : WL} {c : List U → Hm → QU → Prop} {p pos : Pos} (F : FnOk X.prog X.w X.K X.mg X.base CX0 k f fd ps (spOf X.K c)) (hr : Room k X.A) (hg : Gl X x) (hm : X.mg x = some (.ref f))
    (hk : PySem.W.keepIn X.K (.ref f) = true) (hb : Binds X.K fd ps []) (hdb : (x == ("__debug__" : Str)) = false) (hs : (e :: es).all (fun e => !isStar e) = true) (h : SA X g (e :: es)) :
    SE1 X (fun σ M Q => g σ M fun xs M1 => c xs M1 Q) (.Call (.Name x p) (e :: es) [] pos) := by
  obtain ⟨t, pt, q⟩ := h
  have hs2 : isStar e = false ∧ es.all (fun e => !isStar e) = true := by
    rw [List.all_cons, Bool.and_eq_true] at hs
    exact ⟨by simpa using hs.1, hs.2⟩
  refine ⟨_, pe_call F hr hg hm hk hb .nil pass0 pt hdb (star_cons hs2.1) (star_plain hs2.2), fun σ H σu M Qu Q rs S hf ct => ?_⟩
  refine q σ H σu M _ _ rs S hf fun vs H1 us M1 st S1 r1 hq => ?_
  rw [List.append_nil]
  exact ⟨us, M1, Qu, S1, r1, hq, ct.tr S st⟩
theorem se_call0 {k : Nat} {f : Addr} {fd : FuncData} {ps : List Str} {x : Str} {c : List U → Hm → QU → Prop} {p pos : Pos} (F : FnOk X.prog X.w X.K X.mg X.base CX0 k f fd ps (spOf X.K c)) (hr : Room k X.A) (hg : Gl X x) (hm : X.mg x = some (.ref f))
    (hk : PySem.W.keepIn X.K (.ref f) = true) (hb : Binds X.K fd ps []) (hdb : (x == ("__debug__" : Str)) = false) :
    SE1 X (fun σ M Q => c [] M Q) (.Call (.Name x p) [] [] pos) :=
  ⟨_, pe_call0 F hr hg hm hk hb .nil pass0 hdb, fun σ H σu M Qu Q rs S hf ct => ⟨[], M, Qu, S, .nil, hf, ct⟩⟩
theorem keep_base {o : Expr} {n : Str} {env : Env} (h : (match o with | .Call (.Name id _) [] [] _ => id != "super" | _ => true) = true) : attributeBase o n env (eval o env) = eval o env := by
  unfold attributeBase
  split
  · rename_i id p pos
    have h2 : (id != "super") = true := h
    simp [h2]
  · rfl
end
end Pl

set_option maxHeartbeats 400000
/-! enumerate over a list or a tuple -/
namespace Pl
section
open PySem PySem.W PySem.W.X PyProof.Rows L2
theorem wp_pure_eq {α : Type} {M : Model} {A : Around} {Q : α → Shared → Prop} {E : Value → Shared → Prop} {s : Shared} {m : Sem α} {a : α} (h : m = pure a) (q : Q a s) : wpAny M A m Q E s := by
  rw [h]
  exact wpAny_pure q
theorem wp_ite_any {α : Type} {M : Model} {A : Around} {Q : α → Shared → Prop} {E : Value → Shared → Prop} {s : Shared} {b : Bool} {t e : Sem α} (h1 : wpAny M A t Q E s) (h2 : wpAny M A e Q E s) : wpAny M A (if b = true then t else e) Q E s := by
  cases b
  · exact h2
  · exact h1
theorem meets_enumB {v : Value} {o : Obj} {H : Heap → Prop} (B : Begins v o H) : Meets (Builtin.«enumerate.__new__» { pos := [Value.type "enumerate", v] }) fun x R s => H s.heap ∧ R (.ok (.ret (.ref (s.heap.push o).objs.size))) { s with heap := (s.heap.push o).push ⟨.type "enumerate", none, .fields #[Value.none, Value.bool false, Value.ref s.heap.objs.size, rawInt 0, Value.none, Value.none], #[]⟩ } := by
  refine Meets.of_wp fun prog w A R s h => ?_
  obtain ⟨h1, h⟩ := h
  refine wpAny_bind (wpAny_bind (wpAny_pure (wpAny_ite_false (Eq.refl _) (wpAny_bind (wpAny_of_eq sub_enumerate (wpAny_ite_false (Eq.refl _) (wpAny_pure (wpAny_ite_true (Eq.refl _) (wpAny_bind (wpAny_bind (wpAny_stack_any fun st => wpAny_pure ?_)))))))))))
  refine wp_ite_any ?_ ?_
  · refine wpAny_bind ?_
    refine wp_pure_eq (a := (v, none)) rfl ?_
    refine wpAny_bind ?_
    refine B.iter _ _ _ _ _ _ h1 ?_
    refine wpAny_bind ?_
    unfold Builtin.SmallTypes.newRecord newObj
    apply wpAny_ite_false
    · exact rfl
    refine wpAny_bind ?_
    refine wpAny_alloc' ?_
    refine wpAny_pure ?_
    refine wpAny_pure ?_
    exact ⟨_, rfl, h⟩
  · refine wpAny_bind ?_
    refine wp_pure_eq (a := (v, none)) rfl ?_
    refine wpAny_bind ?_
    refine B.iter _ _ _ _ _ _ h1 ?_
    refine wpAny_bind ?_
    unfold Builtin.SmallTypes.newRecord newObj
    apply wpAny_ite_false
    · exact rfl
    refine wpAny_bind ?_
    refine wpAny_alloc' ?_
    refine wpAny_pure ?_
    refine wpAny_pure ?_
    exact ⟨_, rfl, h⟩
theorem call_enumB {prog : Program} {w : World} {A : Around} {E : Value → Shared → Prop} {s : Shared} {v : Value} {o : Obj} {H : Heap → Prop} {Q : Value → Shared → Prop} (B : Begins v o H) (h1 : H s.heap)
    (h : ∀ h' : Heap, IsEnum h' (s.heap.objs.size + 1) s.heap.objs.size 0 Value.none → h'.get? s.heap.objs.size = some o → h'.objs.size = s.heap.objs.size + 2 → (∀ (b : Addr) (o : Obj), s.heap.get? b = some o → h'.get? b = some o) → Q (Value.ref (s.heap.objs.size + 1)) { s with heap := h' }) :
    wpAny (model prog w) A (call (Value.type "enumerate") [v]) Q E s := by
  refine callType_new F.called_enumerate (of_decide_eq_true (id (Eq.refl true))) (F.typeCall_enumerate_1 v) (F.newCall_enumerate_1 v) (fun obj => F.args_object_init_2 obj v) F.entry_enumerate_new (meets_enumB B) ⟨h1, ?_⟩
  have hz := Heap.size_push s.heap o
  have he := Heap.get?_push_size (s.heap.push o) (o := ⟨.type "enumerate", none, .fields #[Value.none, Value.bool false, Value.ref s.heap.objs.size, rawInt 0, Value.none, Value.none], #[]⟩) rfl
  show Shared.TypeIs _ (Value.ref (s.heap.push o).objs.size) "enumerate" ∧ Q (Value.ref (s.heap.push o).objs.size) _
  rw [hz] at he ⊢
  refine ⟨⟨_, he, rfl⟩, h _ he (Heap.get?_push_of_some _ (Heap.get?_push_size s.heap B.free)) ?_ fun b o' x => Heap.get?_push_of_some _ (Heap.get?_push_of_some _ x)⟩
  rw [Heap.size_push, hz]
/-- the walk over a tuple by enumerate -/
def IteT (K : Frag) (a : Addr) : It := ⟨fun i H => ∃ xs x, SqT K H a xs ∧ xs[i]? = some x, fun i H v H' => ∃ (T : Addr) (x : V), v = V.ref T ∧ H T = none ∧ H' = upd H T (.tup [.int (i : Nat), x]) ∧ ∀ xs, SqT K H a xs → xs[i]? = some x, fun i H => ∃ xs, SqT K H a xs ∧ xs.length = i⟩
theorem turn_enumT {P : Program} {w : World} {K : Frag} {elts : List Expr} {kk : Nat} {tpos : Pos} (a e it : Addr) : Turn P w K (.Tuple elts kk tpos) (IteT K a) [e, it] e (fun i h => (∃ old, IsEnum h e it (i : Nat) old) ∧ h.IsTupleIter it a i ∧ e ≠ it ∧ e ≠ a ∧ it ≠ a) := by
  refine ⟨by simp, ?_, ?_, ?_, ?_, ?_⟩
  · intro i h ⟨⟨old, he⟩, ⟨o, ho, hc, hd⟩, _⟩ b hb
    rcases List.mem_cons.mp hb with hb | hb
    · subst hb; exact ⟨_, he, fun v q => nomatch q⟩
    · rw [List.mem_singleton] at hb; subst hb; exact ⟨o, ho, fun v q => by rw [hd] at q; cases q⟩
  · intro i h h' ⟨⟨old, he⟩, ⟨o, ho, hc, hd⟩, n⟩ k
    exact ⟨⟨old, k e (by simp) _ he⟩, ⟨o, k it (by simp) _ ho, hc, hd⟩, n⟩
  · intro X hP hw hK hc i pins s σ H E I hf st hg
    subst hP hw hK
    obtain ⟨⟨old, he⟩, hit, n1, n2, n3⟩ := st
    obtain ⟨xs, x, hq, hx⟩ := hg
    obtain ⟨its, rv, p, hz⟩ := I.tuple hq
    obtain ⟨u, hu, ru⟩ := Vals.get rv hx
    have hi : i < its.toArray.size := by
      rw [List.size_toArray]
      exact (List.getElem?_eq_some_iff.mp hu).1
    have W := WalksT.enumerateD (Draws.tuple (prog := X.prog) (w := X.w) (A := X.A.in1) (I.ok.hd hc) it a n3.symm its.toArray) e n1 (by simp [n1, n2]) (by simp)
    have pt : s.heap.IsTuple a its.toArray := p
    refine W.item i s _ E hi ⟨⟨old, he⟩, hit, pt⟩ fun T vals h' tk ⟨t, x', hx', ev⟩ hT hTup mid old' => ⟨.ref T, rfl, ?_⟩
    refine W.go elts kk tpos i T _ _ E mid fun h'' st'' old'' => ?_
    have ap := W.apart i T h' mid
    have ex' : u = x' := by
      have h2 : its.toArray[i]? = some x' := hx'
      rw [List.getElem?_toArray, hu] at h2
      exact Option.some.inj h2
    subst ex'
    obtain ⟨oT, hoT, hcT, nT, hdT⟩ := hTup
    have hT2 := old'' T oT ap hoT
    subst ev
    have new : ObjOk X.prog X.w (upd H T (.tup [.int (i : Nat), x])) h'' T (.tup [.int (i : Nat), x]) := ⟨of_decide_eq_true (id (Eq.refl true)), [Value.int (i : Nat) t, u], .cons ⟨t, rfl⟩ (.cons ru .nil), oT, hT2, hcT, nT, hdT⟩
    have hel : e < s.heap.objs.size := Heap.lt_size he
    have hil : it < s.heap.objs.size := by obtain ⟨o, ho, _⟩ := hit; exact Heap.lt_size ho
    have I1 := I.turnedNew (h' := h'') (t' := tk) (ch := [e, it]) (fun b ob hb q => old'' b ob hb (old' b ob hb q)) hf hT new
    refine ⟨.ref T, upd H T (.tup [.int (i : Nat), x]), I1, rfl, ⟨T, x, rfl, I.hok.fresh hT, rfl, fun ys hy => by rw [I.tuple_inj hy hq]; exact hx⟩, ?_, fun b hb => ?_⟩
    · exact ⟨st''.1, st''.2.1, n1, n2, n3⟩
    · have hb' : b < s.heap.objs.size := by
        rcases List.mem_cons.mp hb with hb | hb
        · subst hb; exact hel
        · rw [List.mem_singleton] at hb; subst hb; exact hil
      rw [upd_ne (Nat.ne_of_lt (Nat.lt_of_lt_of_le hb' hT))]
      exact (hf b hb).1
  · intro X hP hw hK hc i pins s σ H E I hf st hg
    subst hP hw hK
    obtain ⟨⟨old, he⟩, hit, n1, n2, n3⟩ := st
    obtain ⟨xs, hq, hle⟩ := hg
    obtain ⟨its, rv, p, hz⟩ := I.tuple hq
    have hn : its.toArray.size = i := by rw [List.size_toArray, ← Paired.length rv]; exact hle
    have D := Draws.tuple (prog := X.prog) (w := X.w) (A := X.A.in1) (I.ok.hd hc) it a n3.symm its.toArray
    have pt : s.heap.IsTuple a its.toArray := p
    obtain ⟨f0, f1, f2, f3, f4, f5⟩ := hf it (by simp)
    exact wpAny_pyNext_enum_endD D he (by rw [hn]; exact ⟨hit, pt⟩) fun h' eb => ⟨rfl, I.turned (fun b o hb q => eb b o hb q) f0 f1 f3 f4 f5⟩
  · intro A i s Q E ⟨⟨old, he⟩, _⟩ hQ
    exact wpAny_pyIter_enum he hQ
/-- enumerate over a list or a tuple -/
def iEn (K : Frag) (ta : TA) : TI := fun σ H R => ta σ H fun vs H1 => ∃ a : Addr, vs = [.ref a] ∧ (((∃ xs, SqL K H1 a xs) ∧ R (Ite K a) H1) ∨ ((∃ xs, SqT K H1 a xs) ∧ R (IteT K a) H1))
theorem pi_en {X : Cx} {e : Expr} {ta : TA} {p pos tpos : Pos} {elts : List Expr} {kk : Nat} (hg : Gl X "enumerate") (hm : X.mg "enumerate" = none) (ha : PA X [e] ta) (hs : starEach [e] X.env = [(false, eval e X.env)]) :
    PI X (.Tuple elts kk tpos) (.Call (.Name "enumerate" p) [e] [] pos) (iEn X.K ta) := by
  refine ⟨fun pins s σ H R I h => ?_⟩
  refine Call_ (ld_blt I hg hm boot_enumerate (callWith_type1 (thn (ha.run pos pins s σ H _ I h) fun us s1 ⟨vs, H1, I1, r1, q1⟩ => ?_) hs rfl) (by decide +kernel) (by decide +kernel)) rfl
  obtain ⟨a, rfl, q⟩ := q1
  obtain ⟨u, rfl, ru⟩ := vals1 r1
  obtain rfl : u = Value.ref a := ru
  rcases q with ⟨⟨xs, hx⟩, q⟩ | ⟨⟨xs, hx⟩, q⟩
  · obtain ⟨its, rv, p, hz⟩ := I1.list hx
    refine call_enumerate_list p.isList fun h' he hit hsz hk => wpAny_pyIter_enum he ?_
    have I2 := I1.kept (t' := s1.toks) hk
    refine ⟨_, [s1.heap.objs.size + 1, s1.heap.objs.size], _, Ite X.K a, H1, rfl, I2, turn_enum a _ _, ⟨⟨_, he⟩, hit, Nat.succ_ne_self _⟩, fun b hb => ?_, q⟩
    have hle : s1.heap.objs.size ≤ b := by
      rcases List.mem_cons.mp hb with hb | hb
      · subst hb; exact Nat.le_add_right _ _
      · rw [List.mem_singleton] at hb; subst hb; exact Nat.le_refl _
    exact I1.fpOk hle (I1.hok.fresh hle)
  · obtain ⟨its, rv, p, hz⟩ := I1.tuple hx
    have pt : s1.heap.IsTuple a its.toArray := p
    have ha : a < s1.heap.objs.size := by obtain ⟨o, ho, _⟩ := pt; exact Heap.lt_size ho
    refine call_enumB (begins_tuple a its.toArray) pt fun h' he ho hsz hk => wpAny_pyIter_enum he ?_
    have I2 := I1.kept (t' := s1.toks) hk
    refine ⟨_, [s1.heap.objs.size + 1, s1.heap.objs.size], _, IteT X.K a, H1, rfl, I2, turn_enumT a _ _, ⟨⟨_, he⟩, ⟨_, ho, rfl, rfl⟩, Nat.succ_ne_self _, (Nat.ne_of_lt (Nat.lt_succ_of_lt ha)).symm, (Nat.ne_of_lt ha).symm⟩, fun b hb => ?_, q⟩
    have hle : s1.heap.objs.size ≤ b := by
      rcases List.mem_cons.mp hb with hb | hb
      · subst hb; exact Nat.le_add_right _ _
      · rw [List.mem_singleton] at hb; subst hb; exact Nat.le_refl _
    exact I1.fpOk hle (I1.hok.fresh hle)
end
end Pl

set_option maxHeartbeats 4000000
/-! methods, isinstance, what is walked, comprehensions -/
namespace Pl
open PySem L2
section
variable {X : Cx}
theorem few_args {env : Env} {pos : Pos} {es : List Expr} (h : es.all (fun e => !isStar e) = true) (hl : es.length < 10) :
    ((backTo pos (starEach es env)).all (fun x => !x.1) && (backToKw pos (keywordEach [] env)).all (fun x => x.1.isSome)
      && decide (es.length + ([] : List Keyword).length + (if ([] : List Keyword).isEmpty then 0 else 1) < 30)) = true := by
  have h1 : (backTo pos (starEach es env)).all (fun x => !x.1) = true := by
    have h2 : ∀ es : List Expr, es.all (fun e => !isStar e) = true → (backTo pos (starEach es env)).all (fun x => !x.1) = true := by
      intro es
      induction es with
      | nil => intro _; rfl
      | cons e es ih =>
        intro h
        rw [List.all_cons, Bool.and_eq_true] at h
        rw [star_cons (by simpa using h.1)]
        exact ih h.2
    exact h2 es h
  rw [h1]
  simp [backToKw, keywordEach]
  omega
theorem rcv_ty {K : Fg} {m : Mfn} {T : String} {n : Str} {id : String} {x : V} {u : U} {H : Hp} {M : Hm} (S : Sim K H M) (r : Rel K H x u) (h : mfnT m = some (T, n, id)) (q : rcvW m u M) : tyV K T x H := by
  unfold mfnT at h
  unfold rcvW at q
  split at h <;> first | (cases h; done) | skip
  · cases h
    obtain ⟨p, us, rfl, e⟩ := q
    cases r
    obtain ⟨vs, e2, _⟩ := S _ _ e
    exact .inl ⟨rfl, vs, .inl (.inl e2)⟩
  · cases h
    obtain ⟨p, us, rfl, e⟩ := q
    cases r
    obtain ⟨vs, e2, _⟩ := S _ _ e
    exact .inl ⟨rfl, vs, .inl (.inl e2)⟩
  · cases h
    obtain ⟨p, us, rfl, e⟩ := q
    cases r
    obtain ⟨vs, e2, _⟩ := S _ _ e
    exact .inl ⟨rfl, vs, .inl (.inl e2)⟩
  · cases h
    obtain ⟨p, us, rfl, e⟩ := q
    cases r
    obtain ⟨vs, e2, _⟩ := S _ _ e
    exact .inl ⟨rfl, vs, .inl (.inl e2)⟩
  · cases h
    obtain ⟨s, rfl⟩ := q
    cases r
    exact rfl
theorem mt_S (m : Mfn) {T : String} {n : Str} {id : String} (h : mfnT m = some (T, n, id)) : PlainAttrs T ∧ Slot T n id ∧ typeOf (.builtin id) = pure (.type "method_descriptor") ∧ MtR X id (MRs X.K (mthW m)) := by
  unfold mfnT at h
  split at h <;> first | (cases h; done) | skip
  · cases h; exact ⟨PySem.F.plainAttrs_list, PySem.F.slot_list_append, PySem.F.type_list_append, mt_appendS⟩
  · cases h; exact ⟨PySem.F.plainAttrs_list, PySem.F.slot_list_extend, PySem.F.type_list_extend, mt_extendS⟩
  · cases h; exact ⟨PySem.F.plainAttrs_list, PySem.F.slot_list_pop, PySem.F.type_list_pop, mt_popS⟩
  · cases h; exact ⟨PySem.F.plainAttrs_list, PySem.F.slot_list_pop, PySem.F.type_list_pop, mt_popAtS⟩
  · cases h; exact ⟨PySem.F.plainAttrs_str, PySem.F.slot_str_split, PySem.F.type_str_split, mt_splitS⟩
def notSup : Expr → Bool
  | .Call (.Name id _) [] [] _ => id != "super"
  | _ => true
theorem base_of {o : Expr} {n : Str} {env : Env} (h : notSup o = true) : attributeBase o n env (eval o env) = eval o env := by
  unfold attributeBase
  split
  · rename_i id p pos
    have h2 : (id != "super") = true := h
    simp [h2]
  · rfl
theorem se_mth {m : Mfn} {T : String} {n : Str} {id : String} {o : Expr} {es : List Expr} {f : WE} {g : WL} {apos pos : Pos} (hm : mfnT m = some (T, n, id)) (hs : es.all (fun e => !isStar e) = true) (hl : es.length < 10) (hline : (apos.endLine == pos.line) = true) (hb : notSup o = true)
    (h1 : SE1 X f o) (h2 : SA X g es) (hg0 : es = [] → g = fun _ M Q => Q [] M) : SE1 X (fun σ M Q => f σ M fun x M1 => rcvW m x M1 ∧ g σ M1 fun xs M2 => mthW m x xs M2 Q) (.Call (.Attribute o n apos) es [] pos) := by
  obtain ⟨t1, p1, q1⟩ := h1
  obtain ⟨t2, p2, q2⟩ := h2
  obtain ⟨pa, sl, ty, mt⟩ := mt_S (X := X) m hm
  cases es with
  | nil =>
    rw [hg0 rfl]
    refine ⟨_, pe_bm0 pa sl ty mt p1 (base_of hb) hline, fun σ H σu M Qu Q rs S hf c => ?_⟩
    refine q1 σ H σu M _ _ rs S hf fun v H1 u M1 st S1 r hq => ?_
    exact ⟨rcv_ty S1 r hm hq.1, u, [], M1, Qu, S1, r, .nil, hq.2, c.tr S st⟩
  | cons e es =>
    have hs2 : isStar e = false ∧ es.all (fun e => !isStar e) = true := by
      rw [List.all_cons, Bool.and_eq_true] at hs
      exact ⟨by simpa using hs.1, hs.2⟩
    refine ⟨_, pe_bm pa sl ty mt p1 p2 (base_of hb) (few_args hs hl) hline (star_cons hs2.1) (star_plain hs2.2), fun σ H σu M Qu Q rs S hf c => ?_⟩
    refine q1 σ H σu M _ _ rs S hf fun v H1 u M1 st S1 r hq => ?_
    refine ⟨rcv_ty S1 r hm hq.1, ?_⟩
    refine q2 σ H1 σu M1 _ _ (rs.stp S st) S1 hq.2 fun vs H2 us M2 st2 S2 rl hq2 => ?_
    exact ⟨u, us, M2, Qu, S2, r.stp S1 st2, rl, hq2, c.tr S (st.trans S st2)⟩
theorem se_isinst {t : String} {x z : Str} {a : Expr} {f : WE} {p p2 pos : Pos} (ht : tyOk t = true) (hx : x = "isinstance") (hz : z = Str.ofString t) (hg : Gl X x) (hm : X.mg x = none) (hg2 : Gl X z) (hm2 : X.mg z = none) (hs : isStar a = false) (h1 : SE1 X f a) :
    SE X (.ofE fun σ M Q => f σ M fun x M1 => isTyW x t M1 fun b M2 => Q (.bl b) M2) (.Call (.Name x p) [a, .Name z p2] [] pos) := by
  obtain ⟨t1, p1, q1⟩ := h1
  subst hx hz
  have bz : bootBuiltins (Str.ofString t) = some (.type t) := by
    have ht2 : t = "tuple" ∨ t = "str" ∨ t = "int" ∨ t = "bool" ∨ t = "list" := by
      unfold tyOk at ht
      simp only [Bool.or_eq_true, beq_iff_eq] at ht
      rcases ht with (((h | h) | h) | h) | h
      · exact .inl h
      · exact .inr (.inl h)
      · exact .inr (.inr (.inl h))
      · exact .inr (.inr (.inr (.inl h)))
      · exact .inr (.inr (.inr (.inr h)))
    rcases ht2 with rfl | rfl | rfl | rfl | rfl <;> decide +kernel
  have nz : Str.ofString t ≠ "__name__" ∧ (Str.ofString t == ("__debug__" : Str)) = false := by
    have ht2 : t = "tuple" ∨ t = "str" ∨ t = "int" ∨ t = "bool" ∨ t = "list" := by
      unfold tyOk at ht
      simp only [Bool.or_eq_true, beq_iff_eq] at ht
      rcases ht with (((h | h) | h) | h) | h
      · exact .inl h
      · exact .inr (.inl h)
      · exact .inr (.inr (.inl h))
      · exact .inr (.inr (.inr (.inl h)))
      · exact .inr (.inr (.inr (.inr h)))
    rcases ht2 with rfl | rfl | rfl | rfl | rfl <;> decide +kernel
  have pz : PE X (.Name (Str.ofString t) p2) (tC (.ty t)) := pe_bltn hg2 hm2 bz rfl nz.1 nz.2
  have pall : PA X [a, .Name (Str.ofString t) p2] (tCons t1 (tCons (tC (.ty t)) tNil)) := pa_cons p1 (pa_cons pz pa_nil) (star_cons hs)
  refine SE.ofE rfl ⟨_, pe_callB call_isi hg hm (by decide +kernel) pall (by decide +kernel) (by decide +kernel) (star_cons hs) rfl, fun σ H σu M Qu Q rs S hf c => ?_⟩
  refine q1 σ H σu M _ _ rs S hf fun v H1 u M1 st S1 r hq => ?_
  obtain ⟨ty, b, h1, h2, h3⟩ := isTy_of (Q := fun b H => Q (.bl b) H) ht ⟨u, M1, fun b M2 => Qu (.bl b) M2, S1, r, hq, fun b H' M' st' S' q' => c _ _ _ _ (st.trans S st') S' (.bl b) q'⟩
  exact ⟨v, .ty t, ty, .type t, b, rfl, .ty t, h1, h2, h3⟩

/-! ### what is walked -/
def ItOk (K : Fg) (H0 : Hp) (M0 : Hm) (J : It) (items : List U) (g : Hm → Prop) : Prop := ∀ (i : Nat) (H : Hp) (M : Hm), Stp H0 M0 H M → Sim K H M → g M →
  (∀ u, items[i]? = some u → J.go i H ∧ ∀ x H', J.yld i H x H' → Stp H M H' M ∧ Sim K H' M ∧ Rel K H' x u) ∧ (items.length = i → J.stop i H)
abbrev QI := List U → (Hm → Prop) → ((Hm → Prop) → Hm → Prop) → Hm → Prop
def EvI (K : Fg) (t : TI) (f : WI) : Prop := ∀ (σ : L2.St) (H : Hp) (σu : SU) (M : Hm) (Qu : QI) (R : It → Hp → Prop), RelS K H σ σu → Sim K H M → f σu M Qu →
  (∀ J H' items g ex M', Stp H M H' M' → Sim K H' M' → ItOk K H' M' J items g → g M' → ex = (fun P => P) → Qu items g ex M' → R J H') → t σ H R
def SI (X : Cx) (tg iter : Expr) (f : WI) : Prop := ∃ t, PI X tg iter t ∧ EvI X.K t f
theorem it_list {K : Fg} {H0 : Hp} {M0 : Hm} {p : Addr} {us : List U} : ItOk K H0 M0 (Itl K p) us (fun M => M p = some (.lst us)) := fun i H M st S hm => by
  obtain ⟨vs, e, r⟩ := S p _ hm
  refine ⟨fun u hu => ?_, fun hl => ⟨vs, .inl (.inl e), by rw [r.length]; exact Nat.le_of_eq hl⟩⟩
  obtain ⟨v, ev, rv⟩ := r.get hu
  refine ⟨⟨vs, v, .inl (.inl e), ev⟩, fun x H' ⟨eH, hx⟩ => ?_⟩
  subst eH
  have e2 := hx vs (.inl (.inl e))
  rw [ev] at e2
  cases e2
  exact ⟨Stp.refl _ M, S, rv⟩
theorem it_rol {K : Fg} {H0 : Hp} {M0 : Hm} {p : Addr} {vs : List V} {us : List U} (S0 : Sim K H0 M0) (t : Rl K H0 p vs) (r0 : RelL K H0 vs us) : ItOk K H0 M0 (Itl K p) us (fun _ => True) := fun i H M st S _ => by
  have t1 := t.stp S0 st
  have r := r0.stp S0 st
  refine ⟨fun u hu => ?_, fun hl => ⟨vs, t1.sq, by rw [r.length]; exact Nat.le_of_eq hl⟩⟩
  obtain ⟨v, ev, rv⟩ := r.get hu
  refine ⟨⟨vs, v, t1.sq, ev⟩, fun x H' ⟨eH, hx⟩ => ?_⟩
  subst eH
  have e2 := hx vs t1.sq
  rw [ev] at e2
  cases e2
  exact ⟨Stp.refl _ M, S, rv⟩
theorem it_tup {K : Fg} {H0 : Hp} {M0 : Hm} {p : Addr} {vs : List V} {us : List U} (S0 : Sim K H0 M0) (t : Tp K H0 p vs) (r0 : RelL K H0 vs us) : ItOk K H0 M0 (Itt K p) us (fun _ => True) := fun i H M st S _ => by
  have t1 := t.stp S0 st
  have r := r0.stp S0 st
  refine ⟨fun u hu => ?_, fun hl => ⟨vs, t1.sq, by rw [r.length]; exact Nat.le_of_eq hl⟩⟩
  obtain ⟨v, ev, rv⟩ := r.get hu
  refine ⟨⟨vs, v, t1.sq, ev⟩, fun x H' ⟨eH, hx⟩ => ?_⟩
  subst eH
  have e2 := hx vs t1.sq
  rw [ev] at e2
  cases e2
  exact ⟨Stp.refl _ M, S, rv⟩
theorem it_rng {K : Fg} {H0 : Hp} {M0 : Hm} {a : Int} {n : Nat} : ItOk K H0 M0 (Itr a n) ((List.range n).map fun i => U.int (a + (i : Nat))) (fun _ => True) := fun i H M st S _ => by
  refine ⟨fun u hu => ?_, fun hl => ?_⟩
  rotate_left
  · have hl2 : n = i := by simpa using hl
    exact Nat.le_of_eq hl2
  obtain ⟨h1, h2⟩ := List.getElem?_eq_some_iff.mp hu
  have h3 : i < n := by simpa using h1
  refine ⟨h3, fun x H' ⟨eH, hx⟩ => ?_⟩
  subst eH hx
  rw [← h2]
  refine ⟨Stp.refl _ M, S, ?_⟩
  simp only [List.getElem_map, List.getElem_range]
  exact .int _
theorem enumU_get {l : List U} {i : Nat} {u : U} (h : (enumU l)[i]? = some u) : ∃ w, l[i]? = some w ∧ u = .tup [.int (i : Nat), w] := by
  unfold enumU at h
  rw [List.getElem?_map, List.getElem?_zipIdx] at h
  cases q : l[i]? with
  | none => rw [q] at h; cases h
  | some w =>
    rw [q] at h
    simp only [Option.map_some, Option.some.injEq, Nat.zero_add] at h
    exact ⟨w, rfl, h.symm⟩
theorem enumU_len (l : List U) : (enumU l).length = l.length := by unfold enumU; rw [List.length_map, List.length_zipIdx]
theorem it_enL {K : Fg} {H0 : Hp} {M0 : Hm} {p : Addr} {us : List U} : ItOk K H0 M0 (Ite K p) (enumU us) (fun M => M p = some (.lst us)) := fun i H M st S hm => by
  obtain ⟨vs, e, r⟩ := S p _ hm
  refine ⟨fun u hu => ?_, fun hl => ⟨vs, .inl (.inl e), by rw [r.length]; rw [enumU_len] at hl; exact Nat.le_of_eq hl⟩⟩
  obtain ⟨w, hw, rfl⟩ := enumU_get hu
  obtain ⟨v, ev, rv⟩ := r.get hw
  refine ⟨⟨vs, v, .inl (.inl e), ev⟩, fun x H' ⟨T, y, ex, hT, eH, hy⟩ => ?_⟩
  subst ex eH
  have e2 := hy vs (.inl (.inl e))
  rw [ev] at e2
  cases e2
  exact ⟨Stp.newT S hT, S.newT hT, .tup upd_same (.cons (.int _) (.cons (rv.stp S (Stp.newT S hT)) .nil))⟩
theorem it_enR {K : Fg} {H0 : Hp} {M0 : Hm} {p : Addr} {vs : List V} {us : List U} (S0 : Sim K H0 M0) (t : Rl K H0 p vs) (r0 : RelL K H0 vs us) : ItOk K H0 M0 (Ite K p) (enumU us) (fun _ => True) := fun i H M st S _ => by
  have t1 := t.stp S0 st
  have r := r0.stp S0 st
  refine ⟨fun u hu => ?_, fun hl => ⟨vs, t1.sq, by rw [r.length]; rw [enumU_len] at hl; exact Nat.le_of_eq hl⟩⟩
  obtain ⟨w, hw, rfl⟩ := enumU_get hu
  obtain ⟨v, ev, rv⟩ := r.get hw
  refine ⟨⟨vs, v, t1.sq, ev⟩, fun x H' ⟨T, y, ex, hT, eH, hy⟩ => ?_⟩
  subst ex eH
  have e2 := hy vs t1.sq
  rw [ev] at e2
  cases e2
  exact ⟨Stp.newT S hT, S.newT hT, .tup upd_same (.cons (.int _) (.cons (rv.stp S (Stp.newT S hT)) .nil))⟩
theorem it_enT {K : Fg} {H0 : Hp} {M0 : Hm} {p : Addr} {vs : List V} {us : List U} (S0 : Sim K H0 M0) (t : Tp K H0 p vs) (r0 : RelL K H0 vs us) : ItOk K H0 M0 (IteT K p) (enumU us) (fun _ => True) := fun i H M st S _ => by
  have t1 := t.stp S0 st
  have r := r0.stp S0 st
  refine ⟨fun u hu => ?_, fun hl => ⟨vs, t1.sq, by rw [r.length]; rw [enumU_len] at hl; exact hl⟩⟩
  obtain ⟨w, hw, rfl⟩ := enumU_get hu
  obtain ⟨v, ev, rv⟩ := r.get hw
  refine ⟨⟨vs, v, t1.sq, ev⟩, fun x H' ⟨T, y, ex, hT, eH, hy⟩ => ?_⟩
  subst ex eH
  have e2 := hy vs t1.sq
  rw [ev] at e2
  cases e2
  exact ⟨Stp.newT S hT, S.newT hT, .tup upd_same (.cons (.int _) (.cons (rv.stp S (Stp.newT S hT)) .nil))⟩
theorem si_enum {x : Str} {p pos tpos : Pos} {elts : List Expr} {kk : Nat} {a : Expr} {f : WE} (hx : x = "enumerate") (hg : Gl X x) (hm : X.mg x = none) (hs : isStar a = false) (h : SE1 X f a) :
    SI X (.Tuple elts kk tpos) (.Call (.Name x p) [a] [] pos) (fun σ M Q => f σ M fun x M1 => seqI x M1 fun us g ex M2 => Q (enumU us) g ex M2) := by
  subst hx
  obtain ⟨t, pt, q⟩ := h
  refine ⟨_, pi_en hg hm (pa_cons pt pa_nil (star_cons hs)) (star_cons hs), fun σ H σu M Qu R rs S hf c => ?_⟩
  refine q σ H σu M _ _ rs S hf fun v H1 u M1 st S1 r hq => ?_
  unfold seqI at hq
  split at hq
  · cases r with
    | tup t rl => exact ⟨_, rfl, .inr ⟨⟨_, t.sq⟩, c _ _ _ _ _ _ st S1 (it_enT S1 t rl) trivial rfl hq⟩⟩
  · cases r with
    | rol t rl => exact ⟨_, rfl, .inl ⟨⟨_, t.sq⟩, c _ _ _ _ _ _ st S1 (it_enR S1 t rl) trivial rfl hq⟩⟩
  · cases r
    obtain ⟨us, hm1, hq⟩ := hq
    obtain ⟨vs, e, rl⟩ := S1 _ _ hm1
    exact ⟨_, rfl, .inl ⟨⟨vs, .inl (.inl e)⟩, c _ _ _ _ _ _ st S1 it_enL hm1 rfl hq⟩⟩
  · exact hq.elim
/-- a list or a tuple (either is found when it is walked) -/
def iSq (K : Fg) (tl : TE) : TI := fun σ H R => tl σ H fun x H1 => ∃ a, x = .ref a ∧ (((∃ xs, SqL K H1 a xs) ∧ R (Itl K a) H1) ∨ ((∃ xs, SqT K H1 a xs) ∧ R (Itt K a) H1))
theorem pi_sq {tg l : Expr} {tl : TE} (hl : PE X l tl) : PI X tg l (iSq X.K tl) := by
  refine ⟨fun pins s σ H R I h => ?_⟩
  refine thn (hl.run pins s σ H _ I h) fun v s1 ⟨x, H1, I1, r, q⟩ => ?_
  obtain ⟨a, rfl, q⟩ := q
  obtain rfl : v = Value.ref a := r
  rcases q with ⟨⟨xs, hx⟩, q⟩ | ⟨⟨xs, hx⟩, q⟩
  · obtain ⟨its, rv, p, hz⟩ := I1.list hx
    exact PySem.wpAny_pyIter_list p.isList (pi_one I1 _ (turn_list a _) ⟨_, Heap.get?_push_size _ rfl, rfl, rfl⟩ q)
  · obtain ⟨its, rv, p, hz⟩ := I1.tuple hx
    exact PySem.wpAny_pyIter_tuple (show s1.heap.IsTuple a its.toArray from p) (pi_one I1 _ (turn_tuple a _) ⟨_, Heap.get?_push_size _ rfl, rfl, rfl⟩ q)
theorem si_seq {tg l : Expr} {f : WE} (h : SE1 X f l) : SI X tg l (fun σ M Q => f σ M fun x M1 => seqI x M1 Q) := by
  obtain ⟨t, p, q⟩ := h
  refine ⟨_, pi_sq p, fun σ H σu M Qu R rs S hf c => ?_⟩
  refine q σ H σu M _ _ rs S hf fun v H1 u M1 st S1 r hq => ?_
  unfold seqI at hq
  split at hq
  · cases r with
    | tup t rl => exact ⟨_, rfl, .inr ⟨⟨_, t.sq⟩, c _ _ _ _ _ _ st S1 (it_tup S1 t rl) trivial rfl hq⟩⟩
  · cases r with
    | rol t rl => exact ⟨_, rfl, .inl ⟨⟨_, t.sq⟩, c _ _ _ _ _ _ st S1 (it_rol S1 t rl) trivial rfl hq⟩⟩
  · obtain ⟨us, e, hq⟩ := hq
    cases r
    obtain ⟨vs, e2, _⟩ := S1 _ _ e
    exact ⟨_, rfl, .inl ⟨⟨_, .inl (.inl e2)⟩, c _ _ _ _ _ _ st S1 it_list e rfl hq⟩⟩
  · exact hq.elim
theorem si_rng {tg a : Expr} {f : WE} {x : Str} {p pos : Pos} (hx : x = "range") (hg : Gl X x) (hm : X.mg x = none) (hs : isStar a = false) (h : SE1 X f a) :
    SI X tg (.Call (.Name x p) [a] [] pos) (fun σ M Q => f σ M fun x M1 => ∃ n, x = .int n ∧ n ≤ LIM ∧ -LIM ≤ n ∧ Q (rngU 0 n) (fun _ => True) (fun P => P) M1) := by
  subst hx
  obtain ⟨t, pt, q⟩ := h
  refine ⟨_, pi_range1 hg hm (pa_cons pt pa_nil (star_cons hs)) (star_cons hs), fun σ H σu M Qu R rs S hf c => ?_⟩
  refine q σ H σu M _ _ rs S hf fun v H1 u M1 st S1 r hq => ?_
  obtain ⟨n, rfl, h1, h2, hq⟩ := hq
  cases r
  have hl : LIM = 100000 := rfl
  refine ⟨n, rfl, by omega, by omega, ?_⟩
  have e : rngU 0 n = (List.range n.toNat).map fun i => U.int (0 + (i : Nat)) := by
    unfold rngU
    rw [Int.sub_zero]
  rw [e] at hq
  exact c _ _ _ _ _ _ st S1 it_rng trivial rfl hq
theorem si_rng2 {tg a b : Expr} {f g : WE} {x : Str} {p pos : Pos} (hx : x = "range") (hg : Gl X x) (hm : X.mg x = none) (hs : isStar a = false) (hs2 : isStar b = false) (h : SE1 X f a) (h2 : SE1 X g b) :
    SI X tg (.Call (.Name x p) [a, b] [] pos) (fun σ M Q => f σ M fun x M1 => g σ M1 fun y M2 => ∃ m n, x = .int m ∧ y = .int n ∧ -LIM ≤ m ∧ m ≤ LIM ∧ n ≤ LIM ∧ -LIM ≤ n ∧ Q (rngU m n) (fun _ => True) (fun P => P) M2) := by
  subst hx
  obtain ⟨t, pt, q⟩ := h
  obtain ⟨t2, pt2, q2⟩ := h2
  have st2 : ∀ env : Env, starEach [b] env = [(false, eval b env)] := fun env => star_cons hs2
  refine ⟨_, pi_range2 hg hm (pa_cons pt (pa_cons pt2 pa_nil (star_cons hs2)) (star_cons hs)) (by rw [star_cons hs, star_cons hs2] <;> rfl) (by rw [star_cons hs2] <;> rfl), fun σ H σu M Qu R rs S hf c => ?_⟩
  refine q σ H σu M _ _ rs S hf fun v H1 u M1 st S1 r hq => ?_
  refine q2 σ H1 σu M1 _ _ (rs.stp S st) S1 hq fun v2 H2 u2 M2 st2 S2 r2 hq2 => ?_
  obtain ⟨m, n, rfl, rfl, h1, h2, h3, h4, hq⟩ := hq2
  cases r
  cases r2
  have hl : LIM = 100000 := rfl
  refine ⟨m, n, rfl, by omega, ?_⟩
  exact c _ _ _ _ _ _ (st.trans S st2) S2 it_rng trivial rfl hq
end
end Pl

set_option maxHeartbeats 4000000
/-! targets, comprehensions, statements -/
namespace Pl
open PySem L2
def ContS (K : Fg) (H : Hp) (M : Hm) (Qu : SU → Hm → Prop) (Q : L2.St → Hp → Prop) : Prop := ∀ σ' H' σu' M', Stp H M H' M' → RelS K H' σ' σu' → Sim K H' M' → Qu σu' M' → Q σ' H'
/-- a target, assigned -/
def EvG (K : Fg) (t : TG) (tg : Tg) : Prop := ∀ (x : V) (u : U) (σ : L2.St) (H : Hp) (σu : SU) (M : Hm) (Qu : SU → Prop) (Q : L2.St → Hp → Prop), RelS K H σ σu → Rel K H x u → tgW tg u σu Qu →
  (∀ σ' σu', RelS K H σ' σu' → Qu σu' → (∀ vs, (∀ i ∈ tg.slots, i ∈ vs) → L2.wipe σ' vs = L2.wipe σ vs) → Q σ' H) → t x σ H Q
def SG (X : Cx) (e : Expr) (tg : Tg) : Prop := ∃ t, PG X e t ∧ EvG X.K t tg
theorem setAll_len : ∀ (is : List Nat) (l : List U) (σ σ' : SU), setAll is l σ = some σ' → l.length = is.length
  | [], [], _, _, _ => rfl
  | [], _ :: _, _, _, h => by cases h
  | _ :: _, [], _, _, h => by cases h
  | i :: is, u :: us, σ, σ', h => by
    have q := setAll_len is us _ σ' h
    rw [List.length_cons, List.length_cons, q]
theorem wipe_set (σ : L2.St) (i : Nat) (x : Option V) : ∀ vs : List Nat, i ∈ vs → L2.wipe (σ.set i x) vs = L2.wipe σ vs
  | [], h => by cases h
  | v :: vs, h => by
    unfold L2.wipe
    by_cases hv : i ∈ vs
    · rw [wipe_set σ i x vs hv]
    · have e : i = v := by
        rcases List.mem_cons.mp h with e | e
        · exact e
        · exact absurd e hv
      subst e
      have h2 : ∀ ws : List Nat, i ∉ ws → L2.wipe (σ.set i x) ws = (L2.wipe σ ws).set i x := by
        intro ws
        induction ws with
        | nil => intro _; rfl
        | cons w ws ih =>
          intro hw
          have h3 : i ∉ ws := fun z => hw (List.mem_cons_of_mem _ z)
          have h4 : w ≠ i := fun z => hw (by rw [z]; exact List.mem_cons_self)
          unfold L2.wipe
          rw [ih h3, List.set_comm _ _ (fun z => h4 z.symm)]
      rw [h2 vs hv, List.set_set]
section
variable {X : Cx}
theorem sg_one {i : Nat} {x : Str} {pos : Pos} (hN : X.N.Nodup) (hi : X.N[i]? = some x) (hx : Loc X.env.scope x) (hf : X.fn x = true ∨ X.env.scope.names.lookup x = some .local) : SG X (.Name x pos) (.one i) :=
  ⟨_, pg_name hN hi hx hf, fun v u σ H σu M Qu Q rs r h c => c _ _ (rs.set r i) h fun vs hv => wipe_set σ i _ vs (hv i (by simp [Tg.slots]))⟩
def isName (c : Str → Bool) : Expr → Bool
  | .Name x _ => c x
  | _ => false
/-- the names and their slots -/
def namesB (N : List Str) (ok : Str → Bool) : List Nat → List Expr → Bool
  | [], [] => true
  | i :: is, .Name x _ :: es => decide (N[i]? = some x) && ok x && namesB N ok is es
  | _, _ => false
theorem names_each {N : List Str} {ok : Str → Bool} {env : Env} : ∀ {is : List Nat} {es : List Expr}, namesB N ok is es = true → (assignEach es env).length = is.length ∧ (assignEach es env).findIdx? (·.1) = none
  | [], [], _ => ⟨rfl, rfl⟩
  | i :: is, e :: es, h => by
    cases e <;> first | (simp [namesB] at h; done) | skip
    unfold namesB at h
    rw [Bool.and_eq_true] at h
    obtain ⟨a, b⟩ := names_each (env := env) h.2
    refine ⟨?_, ?_⟩
    · show (assignEach es env).length + 1 = is.length + 1
      rw [a]
    · show List.findIdx? (·.1) ((false, _) :: assignEach es env) = none
      rw [List.findIdx?_cons]
      simp only [Bool.false_eq_true, if_false]
      rw [b]
      rfl
  | [], _ :: _, h => by simp [namesB] at h
  | _ :: _, [], h => by simp [namesB] at h
theorem sgs_names {ok : Str → Bool} (hN : X.N.Nodup) (hok : ∀ x, ok x = true → Loc X.env.scope x ∧ (X.fn x = true ∨ X.env.scope.names.lookup x = some .local)) : ∀ {is : List Nat} {es : List Expr}, namesB X.N ok is es = true →
    ∃ t, PGs X es t ∧ ∀ (vs : List V) (us : List U) (σ : L2.St) (H : Hp) (σu σu' : SU) (Q : L2.St → Hp → Prop), RelS X.K H σ σu → RelL X.K H vs us → setAll is us σu = some σu' →
      (∀ σ', RelS X.K H σ' σu' → (∀ ws, (∀ i ∈ is, i ∈ ws) → L2.wipe σ' ws = L2.wipe σ ws) → Q σ' H) → t vs σ H Q
  | [], [], _ => ⟨_, pgs_nil, fun vs us σ H σu σu' Q rs r h c => by
    cases us with
    | nil =>
      cases r
      have e : some σu = some σu' := h
      cases e
      exact ⟨rfl, c σ rs fun _ _ => rfl⟩
    | cons _ _ => cases h⟩
  | i :: is, e :: es, h => by
    cases e <;> first | (simp [namesB] at h; done) | skip
    rename_i x pos
    unfold namesB at h
    rw [Bool.and_eq_true, Bool.and_eq_true] at h
    obtain ⟨⟨h1, h2⟩, h3⟩ := h
    obtain ⟨t, p, q⟩ := sgs_names hN hok h3
    obtain ⟨l1, l2⟩ := hok x h2
    refine ⟨_, pgs_cons (pg_name hN (of_decide_eq_true h1) l1 l2) p rfl, fun vs us σ H σu σu' Q rs r hs c => ?_⟩
    cases us with
    | nil => cases hs
    | cons u us =>
      cases r with
      | cons ra rb =>
        refine ⟨_, _, rfl, ?_⟩
        refine q _ _ _ H _ _ Q (rs.set ra i) rb hs fun σ' rs' hw => c σ' rs' fun ws hws => ?_
        rw [hw ws fun j hj => hws j (List.mem_cons_of_mem _ hj), wipe_set _ _ _ _ (hws i List.mem_cons_self)]
  | [], _ :: _, h => by simp [namesB] at h
  | _ :: _, [], h => by simp [namesB] at h
theorem sg_many {ok : Str → Bool} {is : List Nat} {es : List Expr} {k : Nat} {pos : Pos} (hc : X.calm = true) (hN : X.N.Nodup) (hok : ∀ x, ok x = true → Loc X.env.scope x ∧ (X.fn x = true ∨ X.env.scope.names.lookup x = some .local)) (h : namesB X.N ok is es = true) :
    SG X (.Tuple es k pos) (.many is) := by
  obtain ⟨t, p, q⟩ := sgs_names hN hok h
  obtain ⟨l1, l2⟩ := names_each (env := X.env) h
  refine ⟨_, pg_tup hc p l1 l2, fun v u σ H σu M Qu Q rs r hq c => ?_⟩
  obtain ⟨l, σ', rfl, hs, hq⟩ := hq
  cases r with
  | tup t1 rl =>
    have hlen : l.length = is.length := setAll_len is l σu σ' hs
    refine ⟨_, _, rfl, t1.sq, by rw [rl.length, hlen], ?_⟩
    exact q _ _ _ H _ _ Q rs rl hs fun σ1 rs1 hw => c σ1 σ' rs1 hq hw
end

/-! ### comprehensions -/
theorem Rel_updD {K : Fg} {H : Hp} {D : Addr} {xs ys : List V} (hD : H D = some (.lst xs)) : (∀ {v : V} {u : U}, Rel K H v u → Rel K (upd H D (.lst ys)) v u) ∧ (∀ {v : List V} {u : List U}, RelL K H v u → RelL K (upd H D (.lst ys)) v u) := by
  have tp : ∀ {a : Addr} {vs : List V}, Tp K H a vs → Tp K (upd H D (.lst ys)) a vs := fun {a vs} h => by
    have ne : a ≠ D := fun e => by
      have h2 : H a = some (.tup vs) := h
      rw [e, hD] at h2
      cases h2
    exact (upd_ne ne).trans h
  have rl : ∀ {a : Addr} {vs : List V}, Rl K H a vs → Rl K (upd H D (.lst ys)) a vs := fun {a vs} h => by
    rcases h with ⟨o, h⟩ | h
    · have ne : a ≠ D := fun e => by
        rw [e, hD] at h
        cases h
      exact .inl ⟨o, (upd_ne ne).trans h⟩
    · exact .inr h
  have both : ∀ n : Nat, (∀ {v : V} {u : U}, sizeOf u ≤ n → Rel K H v u → Rel K (upd H D (.lst ys)) v u) ∧ (∀ {v : List V} {u : List U}, sizeOf u ≤ n → RelL K H v u → RelL K (upd H D (.lst ys)) v u) := by
    intro n
    induction n with
    | zero =>
      refine ⟨fun {v u} h r => ?_, fun {v u} h r => ?_⟩
      · cases u <;> simp at h
      · cases u <;> simp at h
    | succ n ih =>
      refine ⟨fun {v u} h r => ?_, fun {v u} h r => ?_⟩
      · cases r with
        | non => exact .non
        | bl b => exact .bl b
        | int i => exact .int i
        | str x => exact .str x
        | ref a => exact .ref a
        | tup t rr => exact .tup (tp t) (ih.2 (by simp at h; omega) rr)
        | rol t rr => exact .rol (rl t) (ih.2 (by simp at h; omega) rr)
      · cases r with
        | nil => exact .nil
        | cons a b => exact .cons (ih.1 (by simp at h; omega) a) (ih.2 (by simp at h; omega) b)
  exact ⟨fun {v u} r => (both _).1 (Nat.le_refl _) r, fun {v u} r => (both _).2 (Nat.le_refl _) r⟩
theorem Sim_updD {K : Fg} {H : Hp} {M : Hm} {D : Addr} {xs ys : List V} (S : Sim K H M) (hD : H D = some (.lst xs)) (hM : M D = none) : Sim K (upd H D (.lst ys)) M := fun a o e => by
  have ne : a ≠ D := fun z => by rw [z, hM] at e; cases e
  obtain ⟨f, g⟩ := @Rel_updD K H D xs ys hD
  have q := S a o e
  cases o with
  | lst us =>
    obtain ⟨vs, e1, r⟩ := q
    exact ⟨vs, by rw [upd_ne ne]; exact e1, g r⟩
  | dct z t ks =>
    cases t with
    | false => obtain ⟨kvs, e1, r⟩ := q; exact ⟨kvs, by rw [upd_ne ne]; exact e1, Paired.mapR r fun p q x => ⟨x.1, f x.2⟩⟩
    | true => obtain ⟨kvs, e1, r⟩ := q; exact ⟨kvs, by rw [upd_ne ne]; exact e1, Paired.mapR r fun p q x => ⟨x.1, f x.2⟩⟩
theorem wipe_wipe (σ : L2.St) (ws : List Nat) : L2.wipe (L2.wipe σ ws) ws = L2.wipe σ ws := by
  have gen : ∀ (us ws : List Nat) (τ : L2.St), (∀ i ∈ us, i ∈ ws) → L2.wipe (L2.wipe τ us) ws = L2.wipe τ ws := by
    intro us
    induction us with
    | nil => intro ws τ _; rfl
    | cons u us ih =>
      intro ws τ hsub
      show L2.wipe ((L2.wipe τ us).set u none) ws = _
      rw [wipe_set _ _ _ _ (hsub u List.mem_cons_self)]
      exact ih ws τ fun i hi => hsub i (List.mem_cons_of_mem _ hi)
  exact gen ws ws σ fun i hi => hi
abbrev stepW (tg : Tg) (fc : WT) (fe : WE) (σu : SU) : U → (Option U → Hm → Prop) → Hm → Prop := fun x k M => tgW tg x (wipU σu tg.slots) fun σ2 => fc σ2 M fun b M2 => if b = true then fe σ2 M2 fun y M3 => k (some y) M3 else k none M2
theorem comp_core {K : Fg} {tgr : TG} {tg : Tg} {tt : TT} {fc : WT} {te : TE} {fe : WE} {vs : List Nat} (qg : EvG K tgr tg) (qc : EvT K tt fc) (qe : EvE K te fe) (hvs : vs = tg.slots)
    {σ : L2.St} {σu : SU} {H1 : Hp} {M1 : Hm} {J : It} {items : List U} {g : Hm → Prop} {fin : List U → Hm → Prop} (rs : RelS K H1 σ σu) (S1 : Sim K H1 M1) (ok : ItOk K H1 M1 J items g) (hg0 : g M1)
    (hc : compL (stepW tg fc fe σu) g fin items [] M1) {Q : VK}
    (hfin : ∀ D acc accV H2 M2, H1 D = none → Stp H1 M1 H2 M2 → Sim K H2 M2 → M2 D = none → H2 D = some (.lst accV) → RelL K H2 accV acc → g M2 → fin acc M2 → Q (.ref D) H2) :
    ∀ D, H1 D = none → ∃ W : Nat → Nat → Hp → Prop, (∃ m, W 0 m (upd H1 D (.lst []))) ∧ ∀ i m H, W i m H →
      (J.stop i H ∧ Q (.ref D) H) ∨ (J.go i H ∧ ∃ Nx : Hp → Prop, (∀ H', Nx H' → ∃ m', m' < m ∧ W (i + 1) m' H') ∧ ∀ x H', J.yld i H x H' → tgr x (L2.wipe σ vs) H' fun σ2 H2 => L2.wipe σ2 vs = L2.wipe σ vs ∧ tt σ2 H2 fun b H3 =>
        if b = true then te σ2 H3 fun y H4 => ∃ acc, H4 D = some (.lst acc) ∧ acc.length < sizeLine ∧ Nx (upd H4 D (.lst (acc ++ [y]))) else Nx H3) := fun D hD => by
  have hMD : M1 D = none := S1.fr hD
  have neD : ∀ a o, H1 a = some o → a ≠ D := fun a o h z => by rw [z, hD] at h; cases h
  have neM : ∀ a o, M1 a = some o → a ≠ D := fun a o h z => by rw [z, hMD] at h; cases h
  let W : Nat → Nat → Hp → Prop := fun i m H2 => m = items.length - i ∧ i ≤ items.length ∧ ∃ (M2 : Hm) (acc : List U) (accV : List V), Stp H1 M1 H2 M2 ∧ Sim K H2 M2 ∧ M2 D = none ∧ H2 D = some (.lst accV) ∧ RelL K H2 accV acc ∧ g M2 ∧
    compL (stepW tg fc fe σu) g fin (items.drop i) acc M2
  refine ⟨W, ⟨items.length, by simp, Nat.zero_le _, M1, [], [], Stp.newT S1 hD, ?_, hMD, upd_same, .nil, hg0, hc⟩, ?_⟩
  · exact S1.to (Stp.newT S1 hD) fun a x e => .inl ⟨e, upd_ne (neM a x e)⟩
  · rintro i m H2 ⟨rfl, hi, M2, acc, accV, st2, S2, hMD2, hD2, racc, hg, hc⟩
    obtain ⟨go, stop⟩ := ok i H2 M2 st2 S2 hg
    by_cases hlt : i < items.length
    · right
      have hu : items[i]? = some items[i] := List.getElem?_eq_getElem hlt
      obtain ⟨jgo, jy⟩ := go _ hu
      refine ⟨jgo, fun H' => ∃ m', m' < items.length - i ∧ W (i + 1) m' H', fun H' h => h, fun x H3 hy => ?_⟩
      obtain ⟨st3, S3, rx⟩ := jy x H3 hy
      have hdrop : items.drop i = items[i] :: items.drop (i + 1) := List.drop_eq_getElem_cons hlt
      rw [hdrop] at hc
      have hc : tgW tg items[i] (wipU σu tg.slots) fun σ2 => fc σ2 M2 fun b M3 => if b = true then fe σ2 M3 fun y M4 => (g M4 ∧ ((some y : Option U).isSome = true → acc.length < LIM) ∧ compL (stepW tg fc fe σu) g fin (items.drop (i + 1)) (acc ++ (some y).toList) M4)
          else (g M3 ∧ ((none : Option U).isSome = true → acc.length < LIM) ∧ compL (stepW tg fc fe σu) g fin (items.drop (i + 1)) (acc ++ (none : Option U).toList) M3) := hc
      have rs3 : RelS K H3 (L2.wipe σ vs) (wipU σu tg.slots) := by
        rw [hvs]
        exact (rs.stp S1 (st2.trans S1 st3)).wipe _
      refine qg x items[i] (L2.wipe σ vs) H3 (wipU σu tg.slots) M2 _ _ rs3 rx hc fun σ4 σu4 rs4 hc4 hw => ?_
      refine ⟨by
        have e := hw vs (by rw [hvs]; exact fun i hi => hi)
        rw [e]
        exact wipe_wipe σ vs, ?_⟩
      refine qc σ4 H3 σu4 M2 _ _ rs4 S3 hc4 fun b H5 M5 st5 S5 hb => ?_
      have stA : Stp H1 M1 H5 M5 := (st2.trans S1 st3).trans S1 st5
      have hD3 := st3.keep D _ hD2 hMD2
      have hD5 := st5.keep D _ hD3.1 hD3.2
      cases b with
      | false =>
        obtain ⟨g5, _, hrest⟩ := hb
        refine ⟨_, by omega, rfl, by omega, M5, acc, accV, stA, S5, hD5.2, hD5.1, (racc.stp S2 st3).stp S3 st5, g5, ?_⟩
        simpa using hrest
      | true =>
        refine qe σ4 H5 σu4 M5 _ _ (rs4.stp S3 st5) S5 hb fun y H6 uy M6 st6 S6 ry hk => ?_
        obtain ⟨g6, hsz, hrest⟩ := hk
        have hD6 := st6.keep D _ hD5.1 hD5.2
        have racc6 := ((racc.stp S2 st3).stp S3 st5).stp S5 st6
        obtain ⟨f1, f2⟩ := @Rel_updD K H6 D accV (accV ++ [y]) hD6.1
        refine ⟨accV, hD6.1, by rw [racc6.length]; exact lt_line (hsz rfl), _, by omega, rfl, by omega, M6, acc ++ [uy], accV ++ [y], ⟨fun a o h n => ?_, fun a t ks e => ?_⟩, Sim_updD S6 hD6.1 hD6.2, hD6.2, upd_same, f2 (racc6.append (.cons ry .nil)), g6, hrest⟩
        · have z := (stA.trans S1 st6).keep a o h n
          exact ⟨by rw [upd_ne (neD a o h)]; exact z.1, z.2⟩
        · have z := (stA.trans S1 st6).lock a t ks e
          exact ⟨by rw [upd_ne (neM a _ e)]; exact z.1, z.2⟩
    · left
      have e : i = items.length := by omega
      subst e
      refine ⟨stop rfl, hfin D acc accV H2 M2 hD st2 S2 hMD2 hD2 racc hg ?_⟩
      have z := hc
      rw [List.drop_length] at z
      exact z
/-- the new list joins what may change -/
theorem join_new {K : Fg} {H : Hp} {M : Hm} {H1 : Hp} {M1 : Hm} {H2 : Hp} {M2 : Hm} {D : Addr} {acc : List U} {accV : List V} (S : Sim K H M) (st : Stp H M H1 M1) (S1 : Sim K H1 M1) (hD : H1 D = none) (st2 : Stp H1 M1 H2 M2) (S2 : Sim K H2 M2) (hD2 : H2 D = some (.lst accV)) (r : RelL K H2 accV acc) :
    Stp H M H2 (um M2 D (.lst acc)) ∧ Sim K H2 (um M2 D (.lst acc)) := by
  have z := st.trans S st2
  refine ⟨⟨fun a o h n => ?_, fun a t ks e => ?_⟩, fun a o ha => ?_⟩
  · have ne : a ≠ D := fun q => by
      have h2 := (st.keep a o h n).1
      rw [q, hD] at h2
      cases h2
    exact ⟨(z.keep a o h n).1, by rw [um_ne ne]; exact (z.keep a o h n).2⟩
  · have ne : a ≠ D := fun q => by
      obtain ⟨x, hx⟩ := (S a _ e).has
      have h2 := (st.lock a t ks e).1
      rw [hx, q, hD] at h2
      cases h2
    exact ⟨(z.lock a t ks e).1, by rw [um_ne ne]; exact (z.lock a t ks e).2⟩
  · by_cases hz : a = D
    · subst hz
      rw [um_same] at ha
      cases ha
      exact ⟨accV, hD2, r⟩
    · rw [um_ne hz] at ha
      exact S2 a o ha
theorem ev_comp {K : Fg} {ti : TI} {fi : WI} {tgr : TG} {tg : Tg} {tt : TT} {fc : WT} {te : TE} {fe : WE} {vs : List Nat} (qi : EvI K ti fi) (qg : EvG K tgr tg) (qc : EvT K tt fc) (qe : EvE K te fe) (hvs : vs = tg.slots) :
    EvE K (tLc ti tgr tt te vs) (compW fi tg fc fe) := fun σ H σu M Qu Q rs S hf c => by
  refine qi σ H σu M _ _ rs S hf fun J H1 items g ex M1 st S1 ok hg0 hex hq => ?_
  subst hex
  refine comp_core qg qc qe hvs (rs.stp S st) S1 ok hg0 hq fun D acc accV H2 M2 hD st2 S2 hMD2 hD2 r hg hfin => ?_
  obtain ⟨a, b⟩ := join_new S st S1 hD st2 S2 hD2 r
  exact c (.ref D) H2 (.ref D) _ a b (.ref D) (hfin D hMD2)
/-! ### over a dict's keys -/
theorem lock_stp {K : Fg} {H : Hp} {M : Hm} (S : Sim K H M) {d : Addr} {t : Bool} {ks : List (U × U)} (hm : M d = some (.dct false t ks)) :
    ∃ u, H d = some u ∧ Mut (some u) ∧ (∀ od, Stp H M (upd H d (.frz od u)) (um M d (.dct true t ks)) ∧ Sim K (upd H d (.frz od u)) (um M d (.dct true t ks)) ∧
      ((∃ kvs, u = .dK kvs ∧ RelK K H kvs ks ∧ t = false) ∨ ∃ kvs, u = .dT kvs ∧ RelT K H kvs ks ∧ t = true)) := by
  have q := S d _ hm
  cases t with
  | false =>
    obtain ⟨kvs, e, r⟩ := q
    refine ⟨_, e, trivial, fun od => ⟨Stp.mut hm, S.mut (m := .dct true false ks) hm rfl ⟨kvs, ⟨od, upd_same⟩, ?_⟩, .inl ⟨kvs, rfl, r, rfl⟩⟩⟩
    exact Paired.mapR r fun p q x => ⟨x.1, x.2.stp S (Stp.mut (m := .dct true false ks) hm)⟩
  | true =>
    obtain ⟨kvs, e, r⟩ := q
    refine ⟨_, e, trivial, fun od => ⟨Stp.mut hm, S.mut (m := .dct true true ks) hm rfl ⟨kvs, ⟨od, upd_same⟩, ?_⟩, .inr ⟨kvs, rfl, r, rfl⟩⟩⟩
    exact Paired.mapR r fun p q x => ⟨x.1, x.2.stp S (Stp.mut (m := .dct true true ks) hm)⟩
/-- what the walk yields -/
theorem it_keys {K : Fg} {H0 : Hp} {M0 : Hm} {d : Addr} {od : Obj} {kvs : List (Key × V)} {ks : List (U × U)} (e : H0 d = some (.frz od (.dK kvs))) (hm : M0 d = some (.dct true false ks)) (r : RelK K H0 kvs ks) : ItOk K H0 M0 (Itk d od kvs) (ks.map (·.1)) (fun M => M d = some (.dct true false ks)) := fun i H M st S hM => by
  have e2 : H d = some (.frz od (.dK kvs)) := by rw [(st.lock d _ _ hm).1, e]
  have rk := relK_keys r
  have hlen : kvs.length = (ks.map (·.1)).length := by rw [List.length_map]; exact RelK.len r
  refine ⟨fun u hu => ?_, fun hl => ⟨e2, by rw [hlen]; exact Nat.le_of_eq hl⟩⟩
  have hi : i < kvs.length := by rw [hlen]; exact (List.getElem?_eq_some_iff.mp hu).1
  refine ⟨⟨e2, hi⟩, fun x H' ⟨eH, k, v, hk, hx⟩ => ?_⟩
  subst eH hx
  refine ⟨Stp.refl _ M, S, ?_⟩
  obtain ⟨v2, h2, r2⟩ := rk.get hu
  rw [List.getElem?_map, hk] at h2
  cases h2
  cases k with
  | inl n =>
    have e3 : u = .int n := by cases r2; rfl
    rw [e3]
    exact .int n
  | inr n =>
    have e3 : u = .str n := by cases r2; rfl
    rw [e3]
    exact .str n
theorem relT_get {K : Fg} {H : Hp} : ∀ {kvs : List (List Key × V)} {ks : List (U × U)} {i : Nat} {u : U}, RelT K H kvs ks → (ks.map (·.1))[i]? = some u → ∃ k v, kvs[i]? = some (k, v) ∧ u = .tup (k.map keyU)
  | [], _, i, u, r, h => by unfold RelT at r; cases r; simp at h
  | (k, v) :: kvs, _, i, u, r, h => by
    unfold RelT at r
    cases r with
    | @cons p q ps qs a b => cases i with
      | zero =>
        simp at h
        exact ⟨k, v, rfl, by rw [← h]; exact a.1⟩
      | succ i =>
        obtain ⟨k2, v2, e1, e2⟩ := relT_get (K := K) (H := H) (kvs := kvs) (i := i) b (by simpa using h)
        exact ⟨k2, v2, by simpa using e1, e2⟩
theorem it_keysT {K : Fg} {H0 : Hp} {M0 : Hm} {d : Addr} {od : Obj} {kvs : List (List Key × V)} {ks : List (U × U)} (e : H0 d = some (.frz od (.dT kvs))) (hm : M0 d = some (.dct true true ks)) (r : RelT K H0 kvs ks) : ItOk K H0 M0 (Itkt d od kvs) (ks.map (·.1)) (fun M => M d = some (.dct true true ks)) := fun i H M st S hM => by
  have e2 : H d = some (.frz od (.dT kvs)) := by rw [(st.lock d _ _ hm).1, e]
  have hlen : kvs.length = (ks.map (·.1)).length := by rw [List.length_map]; exact RelT.len r
  refine ⟨fun u hu => ?_, fun hl => ⟨e2, by rw [hlen]; exact Nat.le_of_eq hl⟩⟩
  have hi : i < kvs.length := by rw [hlen]; exact (List.getElem?_eq_some_iff.mp hu).1
  refine ⟨⟨e2, hi⟩, fun x H' ⟨eH, k, v, q, hk, hx, ht⟩ => ?_⟩
  subst eH hx
  refine ⟨Stp.refl _ M, S, ?_⟩
  obtain ⟨k2, v2, h2, e3⟩ := relT_get r hu
  rw [hk] at h2
  cases h2
  rw [e3]
  exact .tup ht (relL_keys k)
/-- the walk over a locked dict that stands in a slot -/
theorem keys_run {K : Fg} {σ : L2.St} {H : Hp} {d : Addr} {i : Nat} {od : Obj} {u : HO} {t : Bool} {ks : List (U × U)} {M : Hm} {R : It → Hp → Prop} (hs : σ[i]? = some (some (.ref d))) (S : Sim K H M) (he : H d = some (.frz od u)) (hm : M d = some (.dct true t ks))
    (hu : (∃ kvs, u = .dK kvs ∧ RelK K H kvs ks ∧ t = false) ∨ ∃ kvs, u = .dT kvs ∧ RelT K H kvs ks ∧ t = true) (k : ∀ J, ItOk K H M J (ks.map (·.1)) (fun M => M d = some (.dct true t ks)) → R J H) : L2.iKeys (tVar i) σ H R := by
  refine ⟨_, hs, d, od, rfl, ?_⟩
  rcases hu with ⟨kvs, rfl, r, rfl⟩ | ⟨kvs, rfl, r, rfl⟩
  · exact .inl ⟨kvs, he, k _ (it_keys he hm r)⟩
  · exact .inr ⟨kvs, he, k _ (it_keysT he hm r)⟩
theorem hu_stp {K : Fg} {H H' : Hp} {M M' : Hm} (S : Sim K H M) (st : Stp H M H' M') {u : HO} {t : Bool} {ks : List (U × U)} (hu : (∃ kvs, u = .dK kvs ∧ RelK K H kvs ks ∧ t = false) ∨ ∃ kvs, u = .dT kvs ∧ RelT K H kvs ks ∧ t = true) :
    (∃ kvs, u = .dK kvs ∧ RelK K H' kvs ks ∧ t = false) ∨ ∃ kvs, u = .dT kvs ∧ RelT K H' kvs ks ∧ t = true := by
  rcases hu with ⟨kvs, e, r, e2⟩ | ⟨kvs, e, r, e2⟩
  · exact .inl ⟨kvs, e, Paired.mapR r fun p q x => ⟨x.1, x.2.stp S st⟩, e2⟩
  · exact .inr ⟨kvs, e, Paired.mapR r fun p q x => ⟨x.1, x.2.stp S st⟩, e2⟩
/-- unlocked again -/
theorem unlock_stp {K : Fg} {H : Hp} {M : Hm} {H1 : Hp} {M1 : Hm} {H2 : Hp} {M2 : Hm} {d : Addr} {od : Obj} {u : HO} {t : Bool} {ks : List (U × U)} (S : Sim K H M) (hm : M d = some (.dct false t ks)) (he1 : H1 d = some (.frz od u)) (hm1 : M1 d = some (.dct true t ks)) (st : Stp H M H1 M1) (S1 : Sim K H1 M1)
    (st2 : Stp H1 M1 H2 M2) (S2 : Sim K H2 M2) (hm2 : M2 d = some (.dct true t ks)) (hu : (∃ kvs, u = .dK kvs ∧ RelK K H2 kvs ks ∧ t = false) ∨ ∃ kvs, u = .dT kvs ∧ RelT K H2 kvs ks ∧ t = true) :
    H2 d = some (.frz od u) ∧ Stp H M (upd H2 d u) (um M2 d (.dct false t ks)) ∧ Sim K (upd H2 d u) (um M2 d (.dct false t ks)) ∧ (∀ v x, Rel K H2 v x → Rel K (upd H2 d u) v x) ∧ (∀ v x, RelL K H2 v x → RelL K (upd H2 d u) v x) := by
  have e2 : H2 d = some (.frz od u) := by rw [(st2.lock d _ _ hm1).1, he1]
  have tp : ∀ {a : Addr} {vs : List V}, Tp K H2 a vs → Tp K (upd H2 d u) a vs := fun {a vs} h => by
    have ne : a ≠ d := fun e => by
      have h2 : H2 a = some (.tup vs) := h
      rw [e, e2] at h2
      cases h2
    exact (upd_ne ne).trans h
  have nol : ∀ o vs, H2 d ≠ some (.frz o (.lst vs)) := fun o vs h => by
    rw [e2] at h
    rcases hu with ⟨kvs, rfl, _⟩ | ⟨kvs, rfl, _⟩ <;> cases h
  have rl : ∀ {a : Addr} {vs : List V}, Rl K H2 a vs → Rl K (upd H2 d u) a vs := fun {a vs} h => by
    rcases h with ⟨o, h⟩ | h
    · have ne : a ≠ d := fun e => nol o vs (by rw [← e]; exact h)
      exact .inl ⟨o, (upd_ne ne).trans h⟩
    · exact .inr h
  have both : ∀ n : Nat, (∀ {v : V} {x : U}, sizeOf x ≤ n → Rel K H2 v x → Rel K (upd H2 d u) v x) ∧ (∀ {v : List V} {x : List U}, sizeOf x ≤ n → RelL K H2 v x → RelL K (upd H2 d u) v x) := by
    intro n
    induction n with
    | zero =>
      refine ⟨fun {v u} h r => ?_, fun {v u} h r => ?_⟩
      · cases u <;> simp at h
      · cases u <;> simp at h
    | succ n ih =>
      refine ⟨fun {v u} h r => ?_, fun {v u} h r => ?_⟩
      · cases r with
        | non => exact .non
        | bl b => exact .bl b
        | int i => exact .int i
        | str x => exact .str x
        | ref a => exact .ref a
        | tup t rr => exact .tup (tp t) (ih.2 (by simp at h; omega) rr)
        | rol t rr => exact .rol (rl t) (ih.2 (by simp at h; omega) rr)
      · cases r with
        | nil => exact .nil
        | cons a b => exact .cons (ih.1 (by simp at h; omega) a) (ih.2 (by simp at h; omega) b)
  have f1 : ∀ v x, Rel K H2 v x → Rel K (upd H2 d u) v x := fun v x r => (both _).1 (Nat.le_refl _) r
  have f2 : ∀ v x, RelL K H2 v x → RelL K (upd H2 d u) v x := fun v x r => (both _).2 (Nat.le_refl _) r
  have z := st.trans S st2
  refine ⟨e2, ⟨fun a o h n => ?_, fun a t' ks' e => ?_⟩, fun a o ha => ?_, f1, f2⟩
  · have ne : a ≠ d := fun q => by rw [q, hm] at n; cases n
    exact ⟨by rw [upd_ne ne]; exact (z.keep a o h n).1, by rw [um_ne ne]; exact (z.keep a o h n).2⟩
  · have ne : a ≠ d := fun q => by rw [q, hm] at e; cases e
    exact ⟨by rw [upd_ne ne]; exact (z.lock a _ _ e).1, by rw [um_ne ne]; exact (z.lock a _ _ e).2⟩
  · by_cases hz : a = d
    · subst hz
      rw [um_same] at ha
      cases ha
      rcases hu with ⟨kvs, rfl, r, rfl⟩ | ⟨kvs, rfl, r, rfl⟩
      · exact ⟨kvs, upd_same, Paired.mapR r fun p q x => ⟨x.1, f1 _ _ x.2⟩⟩
      · exact ⟨kvs, upd_same, Paired.mapR r fun p q x => ⟨x.1, f1 _ _ x.2⟩⟩
    · rw [um_ne hz] at ha
      have q := S2 a o ha
      cases o with
      | lst us =>
        obtain ⟨vs, e1, r⟩ := q
        exact ⟨vs, by rw [upd_ne hz]; exact e1, f2 _ _ r⟩
      | dct z t ks =>
        cases t with
        | false => obtain ⟨kvs, e1, r⟩ := q; exact ⟨kvs, by rw [upd_ne hz]; exact e1, Paired.mapR r fun p q x => ⟨x.1, f1 _ _ x.2⟩⟩
        | true => obtain ⟨kvs, e1, r⟩ := q; exact ⟨kvs, by rw [upd_ne hz]; exact e1, Paired.mapR r fun p q x => ⟨x.1, f1 _ _ x.2⟩⟩
def keysI (i : Nat) : WI := fun σ M Q => ∃ j d t ks, E.var i = .var j ∧ σ[j]? = some (some (.ref d)) ∧ M d = some (.dct false t ks) ∧
      Q (ks.map (·.1)) (fun M' => M' d = some (.dct true t ks)) (fun P M' => M' d = some (.dct true t ks) ∧ P (um M' d (.dct false t ks))) (um M d (.dct true t ks))
theorem ev_compK {K : Fg} {i : Nat} {tgr : TG} {tg : Tg} {tt : TT} {fc : WT} {te : TE} {fe : WE} {vs : List Nat} (qg : EvG K tgr tg) (qc : EvT K tt fc) (qe : EvE K te fe) (hvs : vs = tg.slots) :
    EvE K (tLockE (tLc (L2.iKeys (tVar i)) tgr tt te vs)) (compW (keysI i) tg fc fe) := fun σ H σu M Qu Q rs S hf c => by
  obtain ⟨j, d, t, ks, ej, hs, hm, hq⟩ := hf
  cases ej
  obtain ⟨v, hv, rv⟩ := rs.2 i _ hs
  obtain rfl : v = .ref d := by cases rv; rfl
  obtain ⟨u, hd, mu, lk⟩ := lock_stp S hm
  refine ⟨d, u, hd, mu, fun od => ?_⟩
  obtain ⟨st, S1, hu⟩ := lk od
  have hu1 := hu_stp S st hu
  refine keys_run hv S1 upd_same um_same hu1 fun J ok => ?_
  refine comp_core (Q := fun v H' => H' d = some (.frz od u) ∧ Q v (upd H' d u)) qg qc qe hvs (rs.stp S st) S1 ok um_same hq fun D acc accV H2 M2 hD st2 S2 hMD2 hD2 r hg hfin => ?_
  obtain ⟨e2, st3, S3, f1, f2⟩ := unlock_stp S hm upd_same um_same st S1 st2 S2 hg (hu_stp S1 st2 hu1)
  refine ⟨e2, ?_⟩
  have ne : D ≠ d := fun z => by rw [z, upd_same] at hD; cases hD
  have hD3 : (upd H2 d u) D = some (.lst accV) := by rw [upd_ne ne]; exact hD2
  have hHD : H D = none := (upd_ne (H := H) (o := HO.frz od u) ne).symm.trans hD
  obtain ⟨a, b⟩ := join_new S (Stp.refl H M) S hHD st3 S3 hD3 (f2 _ _ r)
  refine c (.ref D) _ (.ref D) _ a b (.ref D) (hfin.2 D ?_)
  rw [um_ne ne]
  exact hMD2
end Pl

set_option maxHeartbeats 4000000
/-! canonical readings; comprehensions as expressions; statements -/
namespace Pl
open PySem L2
def cE (K : Fg) (f : WE) : TE := fun σ H Q => ∃ (σu : SU) (M : Hm) (Qu : QU), RelS K H σ σu ∧ Sim K H M ∧ f σu M Qu ∧ Cont K H M Qu Q
def cT (K : Fg) (f : WT) : TT := fun σ H Q => ∃ (σu : SU) (M : Hm) (Qu : Bool → Hm → Prop), RelS K H σ σu ∧ Sim K H M ∧ f σu M Qu ∧ ContB K H M Qu Q
def cG (K : Fg) (tg : Tg) : TG := fun x σ H Q => ∃ (u : U) (σu : SU) (Qu : SU → Prop), RelS K H σ σu ∧ Rel K H x u ∧ tgW tg u σu Qu ∧
  ∀ σ' σu', RelS K H σ' σu' → Qu σu' → (∀ vs, (∀ i ∈ tg.slots, i ∈ vs) → L2.wipe σ' vs = L2.wipe σ vs) → Q σ' H
theorem ev_cE {K : Fg} {f : WE} : EvE K (cE K f) f := fun σ H σu M Qu Q rs S hf c => ⟨σu, M, Qu, rs, S, hf, c⟩
theorem ev_cT {K : Fg} {f : WT} : EvT K (cT K f) f := fun σ H σu M Qu Q rs S hf c => ⟨σu, M, Qu, rs, S, hf, c⟩
theorem ev_cG {K : Fg} {tg : Tg} : EvG K (cG K tg) tg := fun x u σ H σu M Qu Q rs r h c => ⟨u, σu, Qu, rs, r, h, c⟩
theorem SE1.pe {X : Cx} {f : WE} {x : Expr} (h : SE1 X f x) : PE X x (cE X.K f) := by
  obtain ⟨t, p, q⟩ := h
  exact ⟨fun pins s σ H Q I ⟨σu, M, Qu, rs, S, hf, c⟩ => p.run pins s σ H Q I (q σ H σu M Qu Q rs S hf c)⟩
theorem ST.pt {X : Cx} {f : WT} {x : Expr} (h : ST X f x) : PT X x (cT X.K f) := by
  obtain ⟨t, p, q⟩ := h
  exact ⟨fun pins s σ H Q I ⟨σu, M, Qu, rs, S, hf, c⟩ => p.run pins s σ H Q I (q σ H σu M Qu Q rs S hf c)⟩
theorem SG.pg {X : Cx} {x : Expr} {tg : Tg} (h : SG X x tg) : PG X x (cG X.K tg) := by
  obtain ⟨t, p, q⟩ := h
  exact ⟨fun pins s σ H v u Q I r ⟨a, σu, Qu, rs, ra, hf, c⟩ => p.run pins s σ H v u Q I r (q v a σ H σu (fun _ => none) Qu Q rs ra hf c)⟩
section
variable {X : Cx}
/-- the block of a comprehension -/
abbrev Blk (X : Cx) (scope : Scope) (s : Shared) (H : Hp) (C : Addr) (cl : List (Str × Addr)) (fp : List Addr) : Cx := X.blk s H scope (compEnvC scope cl C X.env) fp
theorem no_set {iter : Expr} {env : Env} (h : (match iter with | .Set _ _ _ => false | _ => true) = true) : ∀ x, foldedSetIterable iter env x = pure x := fun x => by
  cases iter <;> first | (cases h; done) | rfl
def notSet : Expr → Bool
  | .Set _ _ _ => false
  | _ => true
theorem no_set' {iter : Expr} {env : Env} (h : notSet iter = true) : ∀ x, foldedSetIterable iter env x = pure x := fun x => by
  cases iter <;> first | (cases h; done) | rfl
structure CompOk (X : Cx) (tgE elt : Expr) (ifs : List Expr) (scope : Scope) (own : List (Str × Nat)) (tg : Tg) (fc : WT) (fe : WE) : Prop where
  calm : X.calm = true
  nd : X.N.Nodup
  blk : BlkOk X.N X.env.scope scope own
  own : own.map (·.2) = tg.slots
  g : ∀ s H C cl fp, SG (Blk X scope s H C cl fp) tgE tg
  c : (ifs = [] ∧ fc = fun _ M Q => Q true M) ∨ ∃ i, ifs = [i] ∧ ∀ s H C cl fp, ST (Blk X scope s H C cl fp) fc i
  e : ∀ s H C cl fp, SE1 (Blk X scope s H C cl fp) fe elt
theorem CompOk.run {tgE elt : Expr} {ifs : List Expr} {scope : Scope} {own : List (Str × Nat)} {tg : Tg} {fc : WT} {fe : WE} (h : CompOk X tgE elt ifs scope own tg fc fe) :
    ∃ tt, (∀ s H C cl fp, PG (Blk X scope s H C cl fp) tgE (cG X.K tg)) ∧ (∀ s H C cl fp, PTs (Blk X scope s H C cl fp) ifs tt) ∧ (∀ s H C cl fp, PE (Blk X scope s H C cl fp) elt (cE X.K fe)) ∧ EvT X.K tt fc := by
  rcases h.c with ⟨rfl, rfl⟩ | ⟨i, rfl, hi⟩
  · exact ⟨tYes, fun s H C cl fp => (h.g s H C cl fp).pg, fun _ _ _ _ _ => pts_nil, fun s H C cl fp => (h.e s H C cl fp).pe, fun σ H σu M Qu Q rs S hf c => c _ _ _ (Stp.refl H M) S hf⟩
  · exact ⟨cT X.K fc, fun s H C cl fp => (h.g s H C cl fp).pg, fun s H C cl fp => pts_one (hi s H C cl fp).pt, fun s H C cl fp => (h.e s H C cl fp).pe, ev_cT⟩
theorem se_comp {tgE iter elt : Expr} {ifs : List Expr} {scope : Scope} {own : List (Str × Nat)} {tg : Tg} {fi : WI} {fc : WT} {fe : WE} {pos : Pos} (hi : SI X tgE iter fi) (h : CompOk X tgE elt ifs scope own tg fc fe) (hs : notSet iter = true) :
    SE1 X (compW fi tg fc fe) (.ListComp elt [⟨tgE, iter, ifs, 0⟩] scope pos) := by
  obtain ⟨ti, p, q⟩ := hi
  obtain ⟨tt, h1, h2, h3, h4⟩ := h.run
  exact ⟨_, pe_lc h.calm h.nd p h.blk h1 h2 h3 (no_set' hs), ev_comp q ev_cG h4 ev_cE h.own⟩
theorem se_compK {tgE iter elt : Expr} {i : Nat} {ifs : List Expr} {scope : Scope} {own : List (Str × Nat)} {tg : Tg} {fc : WT} {fe : WE} {pos : Pos} (hi : PE X iter (tVar i)) (h : CompOk X tgE elt ifs scope own tg fc fe) (hs : notSet iter = true) :
    SE1 X (compW (keysI i) tg fc fe) (.ListComp elt [⟨tgE, iter, ifs, 0⟩] scope pos) := by
  obtain ⟨tt, h1, h2, h3, h4⟩ := h.run
  exact ⟨_, pe_lock (pe_lc h.calm h.nd (pi_keys hi) h.blk h1 h2 h3 (no_set' hs)), ev_compK ev_cG h4 ev_cE h.own⟩
end

/-! ### statements -/
structure ContD (K : Fg) (H : Hp) (M : Hm) (Du : EndsU) (D : Ends) : Prop where
  nx : ContS K H M Du.nx D.nx
  rt : Cont K H M Du.rt D.rt
  bk : ContS K H M Du.bk D.bk
  ct : ContS K H M Du.ct D.ct
theorem ContS.tr {K : Fg} {H H1 : Hp} {M M1 : Hm} {Qu : SU → Hm → Prop} {Q : L2.St → Hp → Prop} (S0 : Sim K H M) (t : Stp H M H1 M1) (c : ContS K H M Qu Q) : ContS K H1 M1 Qu Q := fun σ' H' σu' M' t' rs S q => c σ' H' σu' M' (t.trans S0 t') rs S q
theorem ContD.tr {K : Fg} {H H1 : Hp} {M M1 : Hm} {Du : EndsU} {D : Ends} (S0 : Sim K H M) (t : Stp H M H1 M1) (c : ContD K H M Du D) : ContD K H1 M1 Du D := ⟨c.nx.tr S0 t, c.rt.tr S0 t, c.bk.tr S0 t, c.ct.tr S0 t⟩
abbrev WSt := EndsU → SU → Hm → Prop
def EvS (K : Fg) (t : TS) (f : WSt) : Prop := ∀ (D : Ends) (Du : EndsU) (σ : L2.St) (H : Hp) (σu : SU) (M : Hm), RelS K H σ σu → Sim K H M → f Du σu M → ContD K H M Du D → t D σ H
def SS (X : Cx) (f : WSt) (st : Stmt) : Prop := ∃ t, PS X st t ∧ EvS X.K t f
def SSs (X : Cx) (f : WSt) (sts : List Stmt) : Prop := ∃ t, PSs X sts t ∧ EvS X.K t f
section
variable {X : Cx}
theorem sss_nil : SSs X (fun D σ M => D.nx σ M) [] := ⟨_, pss_nil, fun D Du σ H σu M rs S h c => c.nx _ _ _ _ (Stp.refl H M) rs S h⟩
theorem sss_one {st : Stmt} {f : WSt} (h : SS X f st) : SSs X f [st] := by
  obtain ⟨t, p, q⟩ := h
  exact ⟨t, pss_one p, q⟩
theorem sss_cons {st : Stmt} {sts : List Stmt} {f g : WSt} (h1 : SS X f st) (h2 : SSs X g sts) : SSs X (fun D σ M => f { D with nx := g D } σ M) (st :: sts) := by
  obtain ⟨t1, p1, q1⟩ := h1
  obtain ⟨t2, p2, q2⟩ := h2
  refine ⟨_, pss_cons p1 p2, fun D Du σ H σu M rs S h c => ?_⟩
  exact q1 _ { Du with nx := g Du } σ H σu M rs S h ⟨fun σ' H' σu' M' st rs' S' hq => q2 D Du σ' H' σu' M' rs' S' hq (c.tr S st), c.rt, c.bk, c.ct⟩
theorem ss_pass {pos : Pos} : SS X (fun D σ M => D.nx σ M) (.Pass pos) := ⟨_, ps_pass, fun D Du σ H σu M rs S h c => c.nx _ _ _ _ (Stp.refl H M) rs S h⟩
theorem ss_break {pos : Pos} : SS X (fun D σ M => D.bk σ M) (.Break pos) := ⟨_, ps_break, fun D Du σ H σu M rs S h c => c.bk _ _ _ _ (Stp.refl H M) rs S h⟩
theorem ss_cont {pos : Pos} : SS X (fun D σ M => D.ct σ M) (.Continue pos) := ⟨_, ps_continue, fun D Du σ H σu M rs S h c => c.ct _ _ _ _ (Stp.refl H M) rs S h⟩
theorem ss_nvr {st : Stmt} : SS X (fun _ _ _ => False) st := ⟨_, ps_never, fun D Du σ H σu M rs S h c => h.elim⟩
theorem sss_nvr {st : List Stmt} : SSs X (fun _ _ _ => False) st := ⟨_, pss_never, fun D Du σ H σu M rs S h c => h.elim⟩
theorem ss_ret {e : Expr} {f : WE} {pos : Pos} (h : SE1 X f e) : SS X (fun D σ M => f σ M D.rt) (.Return (some e) pos) := by
  obtain ⟨t, p, q⟩ := h
  exact ⟨_, ps_ret p, fun D Du σ H σu M rs S h c => q σ H σu M _ _ rs S h c.rt⟩
theorem ss_retN {pos : Pos} : SS X (fun D _ M => D.rt .non M) (.Return none pos) := ⟨_, ps_retN, fun D Du σ H σu M rs S h c => c.rt.at_ S .non h⟩
def isComp : Expr → Bool
  | .ListComp .. => true
  | .SetComp .. => true
  | .DictComp .. => true
  | _ => false
theorem no_swap {e : Expr} {t : Option Expr} {l : Nat} {env : Env} (h : isComp e = false) : swapsWith e t l env = pure false := by
  cases e <;> first | (cases h; done) | rfl
theorem ss_expr {e : Expr} {f : WE} {pos : Pos} (hc : isComp e = false) (h : SE1 X f e) : SS X (fun D σ M => f σ M fun _ M1 => D.nx σ M1) (.Expr e pos) := by
  obtain ⟨t, p, q⟩ := h
  refine ⟨_, ps_expr p (no_swap hc), fun D Du σ H σu M rs S h c => ?_⟩
  exact q σ H σu M _ _ rs S h fun v H' u M' st S' r hq => c.nx _ _ _ _ st (rs.stp S st) S' hq
theorem ev_asg {K : Fg} {i : Nat} {t : TE} {f : WE} (q : EvE K t f) : EvS K (tAsg t (gName i)) (fun D σ M => f σ M fun x M1 => D.nx (σ.set i (some x)) M1) := fun D Du σ H σu M rs S h c => by
  exact q σ H σu M _ _ rs S h fun v H' u M' st S' r hq => c.nx _ _ _ _ st ((rs.stp S st).set r i) S' hq
theorem ss_asg {i : Nat} {x : Str} {e : Expr} {f : WE} {pos pos' : Pos} (hN : X.N.Nodup) (hi : X.N[i]? = some x) (hx : Loc X.env.scope x) (hs : swapsWith e (some (.Name x pos')) pos.line X.env = pure false) (hf : X.fn x = true) (h : SE1 X f e) :
    SS X (fun D σ M => f σ M fun x M1 => D.nx (σ.set i (some x)) M1) (.Assign [.Name x pos'] e pos) := by
  obtain ⟨t, p, q⟩ := h
  exact ⟨_, ps_set hN hi hx p hs (.inl hf), ev_asg q⟩
/-- a comprehension whose value goes to a name on its line -/
theorem ss_asgC {i : Nat} {y : Str} {tgE iter elt : Expr} {ifs : List Expr} {scope : Scope} {own : List (Str × Nat)} {tg : Tg} {fi : WI} {fc : WT} {fe : WE} {pos pos' spos : Pos} (hy : X.N[i]? = some y) (hyl : X.env.scope.names.lookup y = some .local)
    (hsw : swapsWith (.ListComp elt [⟨tgE, iter, ifs, 0⟩] scope pos) (some (.Name y pos')) spos.line X.env = pure true) (hi : SI X tgE iter fi) (h : CompOk X tgE elt ifs scope own tg fc fe) (hs : notSet iter = true) :
    SS X (fun D σ M => compW fi tg fc fe σ M fun x M1 => D.nx (σ.set i (some x)) M1) (.Assign [.Name y pos'] (.ListComp elt [⟨tgE, iter, ifs, 0⟩] scope pos) spos) := by
  obtain ⟨ti, p, q⟩ := hi
  obtain ⟨tt, h1, h2, h3, h4⟩ := h.run
  exact ⟨_, ps_setLc h.calm h.nd hy hyl hsw p h.blk h1 h2 h3 (no_set' hs), ev_asg (ev_comp q ev_cG h4 ev_cE h.own)⟩
theorem ev_lockS {K : Fg} {i j : Nat} {tgr : TG} {tg : Tg} {tt : TT} {fc : WT} {te : TE} {fe : WE} {vs : List Nat} (qg : EvG K tgr tg) (qc : EvT K tt fc) (qe : EvE K te fe) (hvs : vs = tg.slots) :
    EvS K (tLock (tAsg (tLc (L2.iKeys (tVar i)) tgr tt te vs) (gName j))) (fun D σ M => compW (keysI i) tg fc fe σ M fun x M1 => D.nx (σ.set j (some x)) M1) := fun D Du σ H σu M rs S hf c => by
  have q := ev_compK (K := K) (i := i) qg qc qe hvs σ H σu M _ (fun v H' => D.nx (σ.set j (some v)) H') rs S hf fun v H' u M' st S' r hq => c.nx _ _ _ _ st ((rs.stp S st).set r j) S' hq
  exact q
theorem ss_asgCK {i j : Nat} {y : Str} {tgE iter elt : Expr} {ifs : List Expr} {scope : Scope} {own : List (Str × Nat)} {tg : Tg} {fc : WT} {fe : WE} {pos pos' spos : Pos} (hy : X.N[j]? = some y) (hyl : X.env.scope.names.lookup y = some .local)
    (hsw : swapsWith (.ListComp elt [⟨tgE, iter, ifs, 0⟩] scope pos) (some (.Name y pos')) spos.line X.env = pure true) (hi : PE X iter (tVar i)) (h : CompOk X tgE elt ifs scope own tg fc fe) (hs : notSet iter = true) :
    SS X (fun D σ M => compW (keysI i) tg fc fe σ M fun x M1 => D.nx (σ.set j (some x)) M1) (.Assign [.Name y pos'] (.ListComp elt [⟨tgE, iter, ifs, 0⟩] scope pos) spos) := by
  obtain ⟨tt, h1, h2, h3, h4⟩ := h.run
  exact ⟨_, ps_lock (ps_setLc h.calm h.nd hy hyl hsw (pi_keys hi) h.blk h1 h2 h3 (no_set' hs)), ev_lockS ev_cG h4 ev_cE h.own⟩
theorem swapSole {e t : Expr} {l : Nat} {env : Env} (h : isComp e = false ∨ (match t with | .Name .. => false | _ => true) = true) : swapsWithSole [t] e l env = pure false := by
  show swapsWith e (some t) l env = pure false
  rcases h with h | h
  · exact no_swap h
  · cases e <;> first | rfl | (cases t <;> first | (cases h; done) | rfl)
theorem no_stores {e t : Expr} {env : Env} (h : (match e with | .Tuple .. => false | _ => true) = true ∨ (match t with | .Tuple .. => false | .List .. => false | _ => true) = true) : swappedStores [t] e env = pure none := by
  rcases h with h | h
  · cases e <;> first | (cases h; done) | (cases t <;> rfl)
  · cases t <;> first | (cases h; done) | (cases e <;> rfl)
def notTup : Expr → Bool
  | .Tuple .. => false
  | _ => true
theorem ss_asgT {is : List Nat} {es : List Expr} {ok : Str → Bool} {k : Nat} {e : Expr} {f : WE} {tpos pos : Pos} (hc : X.calm = true) (hN : X.N.Nodup) (hok : ∀ x, ok x = true → Loc X.env.scope x ∧ (X.fn x = true ∨ X.env.scope.names.lookup x = some .local)) (hn : namesB X.N ok is es = true)
    (ht : notTup e = true) (h : SE1 X f e) : SS X (fun D σ M => f σ M fun x M1 => ∃ l σ', x = .tup l ∧ setAll is l σ = some σ' ∧ D.nx σ' M1) (.Assign [.Tuple es k tpos] e pos) := by
  obtain ⟨t, p, q⟩ := h
  obtain ⟨tg, pg, qg⟩ := sg_many (k := k) (pos := tpos) hc hN hok hn
  refine ⟨_, ps_asg p pg (swapSole (.inr rfl)) (no_stores (.inl (by cases e <;> first | (cases ht; done) | rfl))) rfl, fun D Du σ H σu M rs S hf c => ?_⟩
  refine q σ H σu M _ _ rs S hf fun v H' u M' st S' r hq => ?_
  exact qg v u σ H' σu M' (fun σ' => Du.nx σ' M') _ (rs.stp S st) r hq fun σ1 σu1 rs1 hq1 _ => c.nx _ _ _ _ st rs1 S' hq1
theorem ss_setIx {o i e : Expr} {f g h : WE} {tpos pos : Pos} (hu : X.A.units + 1 < cLine) (h1 : SE1 X f e) (h2 : SE1 X g o) (h3 : SE1 X h i) (hs : notSlice i = true) :
    SS X (fun D σ M => f σ M fun v M1 => g σ M1 fun x M2 => h σ M2 fun y M3 => setW x y v M3 (D.nx σ)) (.Assign [.Subscript o i tpos] e pos) := by
  obtain ⟨t1, p1, q1⟩ := h1
  obtain ⟨t2, p2, q2⟩ := h2
  obtain ⟨t3, p3, q3⟩ := h3
  refine ⟨_, ps_asg p1 (pg_sub p2 p3 (set_S hu) (fun v => by cases i <;> first | (cases hs; done) | rfl)) (swapSole (.inr rfl)) (no_stores (.inr rfl)) rfl, fun D Du σ H σu M rs S hf c => ?_⟩
  refine q1 σ H σu M _ _ rs S hf fun v H1 u M1 st S1 r hq => ?_
  refine q2 σ H1 σu M1 _ _ (rs.stp S st) S1 hq fun v2 H2 u2 M2 st2 S2 r2 hq2 => ?_
  have s12 := st.trans S st2
  refine q3 σ H2 σu M2 _ _ (rs.stp S s12) S2 hq2 fun v3 H3 u3 M3 st3 S3 r3 hq3 => ?_
  have s13 := s12.trans S st3
  exact ⟨u2, u3, u, M3, _, S3, r2.stp S2 st3, r3, (r.stp S1 st2).stp S2 st3, hq3, fun H' M' st' S' hq' => c.nx _ _ _ _ (s13.trans S st') (rs.stp S (s13.trans S st')) S' hq'⟩
def iopOf : Bop → Option Operator
  | .add => some .Add
  | .sub => some .Sub
  | _ => none
theorem ip_S {op : Bop} {o : Operator} (h : iopOf op = some o) : PIp X o (fun x y H Q => ∃ a b, x = .int a ∧ y = .int b ∧ Q (.int (if op = .add then a + b else a - b)) H) := by
  cases op <;> first | (cases h; done) | skip
  · cases h
    exact ip_add
  · cases h
    exact ip_sub
theorem bin_int {op : Bop} {o : Operator} (h : iopOf op = some o) {a b : Int} {M : Hm} {Q : QU} (q : binW op (.int a) (.int b) M Q) : Q (.int (if op = .add then a + b else a - b)) M := by
  cases op <;> first | (cases h; done) | exact q
theorem ss_augV {i : Nat} {x : Str} {e : Expr} {f : WE} {op : Bop} {o : Operator} {pos pos' : Pos} (ho : iopOf op = some o) (hN : X.N.Nodup) (hi : X.N[i]? = some x) (hx : Loc X.env.scope x) (hf : X.fn x = true) (h : SE1 X f e) :
    SS X (fun D σ M => ∃ x, σ[i]? = some (some x) ∧ f σ M fun y M1 => ∃ a b, x = .int a ∧ y = .int b ∧ binW op x y M1 fun z M2 => D.nx (σ.set i (some z)) M2) (.AugAssign (.Name x pos') o e pos) := by
  obtain ⟨t, p, q⟩ := h
  refine ⟨_, ps_aug hN hi hx p (ip_S ho) (.inl hf), fun D Du σ H σu M rs S hf c => ?_⟩
  obtain ⟨u, hu, hf⟩ := hf
  obtain ⟨v, hv, rv⟩ := rs.2 i u hu
  refine ⟨v, hv, q σ H σu M _ _ rs S hf fun v2 H' u2 M' st S' r hq => ?_⟩
  obtain ⟨a, b, rfl, rfl, hq⟩ := hq
  have rv := rv.stp S st
  cases rv
  cases r
  exact ⟨a, b, rfl, rfl, c.nx _ _ _ _ st ((rs.stp S st).set (.int _) i) S' (bin_int ho hq)⟩
/-- o[i] by values -/
theorem get_S (hu : X.A.units + 1 < cLine) : PGet X (R2s X.K getW) := by
  intro pins s σ H o i ov iv Q I ro ri h
  obtain ⟨a, b, M, Qu, S, ra, rb, hf, c⟩ := h
  unfold getW at hf
  have hn := line63
  split at hf
  · rcases hf with ⟨us, j, w, h1, rfl, e, q⟩ | ⟨z, t, ks, w, h1, h2, e, q⟩
    · cases rb
      cases ra
      obtain ⟨vs, e2, r⟩ := S _ _ h1
      obtain ⟨v1, e1, r1⟩ := ix_pure r e
      obtain rfl : ov = Value.ref _ := ro
      obtain ⟨t', rfl⟩ := ri
      obtain ⟨its, r', pl, hz⟩ := I.list (.inl (.inl e2))
      obtain ⟨k, h1, h2, h3, h4, h5⟩ := atI_get e1
      obtain ⟨w', ew, rw'⟩ := r'.get h2
      have hl := r'.length
      have fin : EP X pins σ Q w' s := ⟨v1, H, I, rw', c.at_ S r1 q⟩
      by_cases h0 : 0 ≤ j
      · have hj : j.toNat = k := by
          rw [PySem.seqIndex_of h0 h5] at h1
          exact Option.some.inj h1
        exact PySem.wpAny_getItem_list (Q := EP X pins σ Q) pl.isList h0 (by omega) (by rw [hj]; simpa using ew) fin
      · have hj : (j + (its.toArray.size : Int)).toNat = k := by
          rw [PySem.seqIndex_neg (by omega) h4] at h1
          rw [List.size_toArray, ← hl]
          exact Option.some.inj h1
        exact PySem.wpAny_getItem_list_neg (Q := EP X pins σ Q) pl.isList (by omega) (by rw [List.size_toArray] <;> omega) (by omega) (by rw [hj]; simpa using ew) fin
    · obtain ⟨o', g, q2⟩ := dget_of S h1 h2 rb
      cases ra
      obtain rfl : ov = Value.ref _ := ro
      rcases q2 with ⟨_, e2⟩ | ⟨v1, u1, e1, e2, r1⟩
      · rw [e] at e2; cases e2
      · rw [e] at e2
        cases e2
        subst e1
        exact d_getItem hu I g ri fun w' s' I' rw' => ⟨_, H, I', rw', c.at_ S r1 q⟩
  · exact hf.elim
theorem ss_augIx {o i e : Expr} {f g h : WE} {op : Bop} {oo : Operator} {tpos pos : Pos} (ho : iopOf op = some oo) (hu : X.A.units + 1 < cLine) (h1 : SE1 X f o) (h2 : SE1 X g i) (h3 : SE1 X h e) (hs : notSlice i = true) :
    SS X (fun D σ M => f σ M fun x M1 => g σ M1 fun y M2 => getW x y M2 fun v M3 => h σ M3 fun z M4 => ∃ a b, v = .int a ∧ z = .int b ∧ binW op v z M4 fun r M5 => setW x y r M5 (D.nx σ)) (.AugAssign (.Subscript o i tpos) oo e pos) := by
  obtain ⟨t1, p1, q1⟩ := h1
  obtain ⟨t2, p2, q2⟩ := h2
  obtain ⟨t3, p3, q3⟩ := h3
  refine ⟨_, ps_augS p1 p2 (get_S hu) p3 (ip_S ho) (set_S hu) (fun ov iv new => by cases i <;> first | (cases hs; done) | rfl), fun D Du σ H σu M rs S hf c => ?_⟩
  refine q1 σ H σu M _ _ rs S hf fun v H1 u M1 st S1 r hq => ?_
  refine q2 σ H1 σu M1 _ _ (rs.stp S st) S1 hq fun v2 H2 u2 M2 st2 S2 r2 hq2 => ?_
  have s12 := st.trans S st2
  refine ⟨u, u2, M2, _, S2, r.stp S1 st2, r2, hq2, fun v3 H3 u3 M3 st3 S3 r3 hq3 => ?_⟩
  have s13 := s12.trans S st3
  refine q3 σ H3 σu M3 _ _ (rs.stp S s13) S3 hq3 fun v4 H4 u4 M4 st4 S4 r4 hq4 => ?_
  have s14 := s13.trans S st4
  obtain ⟨a, b, rfl, rfl, hq4⟩ := hq4
  cases r3
  cases r4
  refine ⟨a, b, rfl, rfl, ?_⟩
  have rr := ((r.stp S1 st2).stp S2 st3).stp S3 st4
  have rr2 := (r2.stp S2 st3).stp S3 st4
  exact ⟨u, u2, _, M4, _, S4, rr, rr2, .int _, bin_int ho hq4, fun H' M' st' S' hq' => c.nx _ _ _ _ (s14.trans S st') (rs.stp S (s14.trans S st')) S' hq'⟩
theorem ss_if {c0 : Expr} {a b : List Stmt} {fc : WT} {f g : WSt} {pos : Pos} (hc : ST X fc c0) (h1 : SSs X f a) (h2 : SSs X g b) : SS X (fun D σ M => fc σ M fun k M1 => if k = true then f D σ M1 else g D σ M1) (.If c0 a b pos) := by
  obtain ⟨t0, p0, q0⟩ := hc
  obtain ⟨t1, p1, q1⟩ := h1
  obtain ⟨t2, p2, q2⟩ := h2
  refine ⟨_, ps_if p0 p1 p2, fun D Du σ H σu M rs S hf c => ?_⟩
  refine q0 σ H σu M _ _ rs S hf fun k H1 M1 st S1 hq => ?_
  cases k with
  | true => exact q1 D Du σ H1 σu M1 (rs.stp S st) S1 hq (c.tr S st)
  | false => exact q2 D Du σ H1 σu M1 (rs.stp S st) S1 hq (c.tr S st)
theorem ss_whl {c0 : Expr} {b : List Stmt} {fc : WT} {f : WSt} {pos : Pos} (hx : X.xe = fun _ _ => False) (hc : ST X fc c0) (h1 : SSs X f b) :
    SS X (fun D σ M => ∃ W : Nat → SU → Hm → Prop, (∃ m, W m σ M) ∧ ∀ m σ M, W m σ M → fc σ M fun k M1 =>
      if k = true then f ⟨fun σ' M' => ∃ m', m' < m ∧ W m' σ' M', D.rt, D.nx, fun σ' M' => ∃ m', m' < m ∧ W m' σ' M'⟩ σ M1 else D.nx σ M1) (.While c0 b [] pos) := by
  obtain ⟨t0, p0, q0⟩ := hc
  obtain ⟨t1, p1, q1⟩ := h1
  refine ⟨_, ps_while (by rw [hx]; exact PassesOwn.never) p0 p1, fun D Du σ H σu M rs S hf c => ?_⟩
  obtain ⟨W, ⟨m0, w0⟩, turn⟩ := hf
  refine ⟨fun m σ2 H2 => ∃ σu2 M2, Stp H M H2 M2 ∧ RelS X.K H2 σ2 σu2 ∧ Sim X.K H2 M2 ∧ W m σu2 M2, ⟨m0, σu, M, Stp.refl H M, rs, S, w0⟩, ?_⟩
  rintro m σ2 H2 ⟨σu2, M2, st2, rs2, S2, w2⟩
  refine q0 σ2 H2 σu2 M2 _ _ rs2 S2 (turn m σu2 M2 w2) fun k H3 M3 st3 S3 hq => ?_
  have s3 := st2.trans S st3
  have rs3 := rs2.stp S2 st3
  cases k with
  | false => exact c.nx _ _ _ _ s3 rs3 S3 hq
  | true =>
    refine ⟨fun σ' H' => ∃ m', m' < m ∧ ∃ σu2 M2, Stp H M H' M2 ∧ RelS X.K H' σ' σu2 ∧ Sim X.K H' M2 ∧ W m' σu2 M2, fun _ _ z => z, ?_⟩
    have back : ContS X.K H3 M3 (fun σ' M' => ∃ m', m' < m ∧ W m' σ' M') (fun σ' H' => ∃ m', m' < m ∧ ∃ σu2 M2, Stp H M H' M2 ∧ RelS X.K H' σ' σu2 ∧ Sim X.K H' M2 ∧ W m' σu2 M2) := fun σ' H' σu' M' st' rs' S' ⟨m', hm, w'⟩ => ⟨m', hm, σu', M', s3.trans S st', rs', S', w'⟩
    exact q1 _ _ σ2 H3 σu2 M3 rs3 S3 hq ⟨back, c.rt.tr S s3, c.nx.tr S s3, back⟩
/-- the turns of a for -/
abbrev turnW (tg : Tg) (f : WSt) (D : EndsU) (ex : (Hm → Prop) → Hm → Prop) : U → (SU → Hm → Prop) → SU → Hm → Prop := fun x nx σ M => tgW tg x σ fun σ2 => f ⟨nx, fun u M => ex (D.rt u) M, fun σ M => ex (D.nx σ) M, nx⟩ σ2 M
def forW (fi : WI) (tg : Tg) (f : WSt) : WSt := fun D σ M => fi σ M fun items g ex M1 => forL (turnW tg f D ex) g (fun σ M => ex (D.nx σ) M) items σ M1
theorem for_core {K : Fg} {tgr : TG} {tg : Tg} {tb : TS} {f : WSt} (qg : EvG K tgr tg) (qb : EvS K tb f) {σ : L2.St} {σu : SU} {H1 : Hp} {M1 : Hm} {J : It} {items : List U} {g : Hm → Prop} {ex : (Hm → Prop) → Hm → Prop} {D : Ends} {Du : EndsU}
    (rs : RelS K H1 σ σu) (S1 : Sim K H1 M1) (ok : ItOk K H1 M1 J items g) (hg0 : g M1) (hc : forL (turnW tg f Du ex) g (fun σ M => ex (Du.nx σ) M) items σu M1)
    (hnx : ContS K H1 M1 (fun σ M => ex (Du.nx σ) M) D.nx) (hend : ∀ σ' H' σu' M', Stp H1 M1 H' M' → RelS K H' σ' σu' → Sim K H' M' → g M' → ex (Du.nx σu') M' → D.nx σ' H') (hrt : Cont K H1 M1 (fun u M => ex (Du.rt u) M) D.rt) :
    ∃ W : Nat → Nat → L2.St → Hp → Prop, (∃ m, W 0 m σ H1) ∧ ∀ i m σ H, W i m σ H →
      (J.stop i H ∧ D.nx σ H) ∨ (J.go i H ∧ ∃ N : L2.St → Hp → Prop, (∀ σ' H', N σ' H' → ∃ m', m' < m ∧ W (i + 1) m' σ' H') ∧ ∀ x H', J.yld i H x H' → tgr x σ H' fun σ2 H2 => tb { D with nx := N, ct := N, bk := D.nx } σ2 H2) := by
  let W : Nat → Nat → L2.St → Hp → Prop := fun i m σ2 H2 => m = items.length - i ∧ i ≤ items.length ∧ ∃ (σu2 : SU) (M2 : Hm), Stp H1 M1 H2 M2 ∧ RelS K H2 σ2 σu2 ∧ Sim K H2 M2 ∧ g M2 ∧ forL (turnW tg f Du ex) g (fun σ M => ex (Du.nx σ) M) (items.drop i) σu2 M2
  refine ⟨W, ⟨items.length, by simp, Nat.zero_le _, σu, M1, Stp.refl H1 M1, rs, S1, hg0, hc⟩, ?_⟩
  rintro i m σ2 H2 ⟨rfl, hi, σu2, M2, st2, rs2, S2, hg, hc⟩
  obtain ⟨go, stop⟩ := ok i H2 M2 st2 S2 hg
  by_cases hlt : i < items.length
  · right
    have hu : items[i]? = some items[i] := List.getElem?_eq_getElem hlt
    obtain ⟨jgo, jy⟩ := go _ hu
    refine ⟨jgo, fun σ' H' => ∃ m', m' < items.length - i ∧ W (i + 1) m' σ' H', fun _ _ z => z, fun x H3 hy => ?_⟩
    obtain ⟨st3, S3, rx⟩ := jy x H3 hy
    have hdrop : items.drop i = items[i] :: items.drop (i + 1) := List.drop_eq_getElem_cons hlt
    rw [hdrop] at hc
    have s3 := st2.trans S1 st3
    have hc : tgW tg items[i] σu2 fun σ4 => f ⟨fun σ' M' => g M' ∧ forL (turnW tg f Du ex) g (fun σ M => ex (Du.nx σ) M) (items.drop (i + 1)) σ' M', fun u M => ex (Du.rt u) M, fun σ M => ex (Du.nx σ) M, fun σ' M' => g M' ∧ forL (turnW tg f Du ex) g (fun σ M => ex (Du.nx σ) M) (items.drop (i + 1)) σ' M'⟩ σ4 M2 := hc
    refine qg x items[i] σ2 H3 σu2 M2 _ _ (rs2.stp S2 st3) rx hc fun σ4 σu4 rs4 hb _ => ?_
    have back : ContS K H3 M2 (fun σ' M' => g M' ∧ forL (turnW tg f Du ex) g (fun σ M => ex (Du.nx σ) M) (items.drop (i + 1)) σ' M') (fun σ' H' => ∃ m', m' < items.length - i ∧ W (i + 1) m' σ' H') := fun σ' H' σu' M' st' rs' S' ⟨g', h'⟩ =>
      ⟨items.length - (i + 1), by omega, rfl, by omega, σu', M', s3.trans S1 st', rs', S', g', h'⟩
    exact qb _ _ σ4 H3 σu4 M2 rs4 S3 hb ⟨back, hrt.tr S1 s3, hnx.tr S1 s3, back⟩
  · left
    have e : i = items.length := by omega
    subst e
    have z := hc
    rw [List.drop_length] at z
    exact ⟨stop rfl, hend _ _ _ _ st2 rs2 S2 hg z⟩
theorem ss_for {tgE iter : Expr} {body : List Stmt} {tg : Tg} {fi : WI} {f : WSt} {pos : Pos} (hx : X.xe = fun _ _ => False) (hc : X.calm = true) (hi : SI X tgE iter fi) (hg : SG X tgE tg) (hb : SSs X f body) (hs : notSet iter = true) : SS X (forW fi tg f) (.For tgE iter body [] pos) := by
  obtain ⟨ti, p, q⟩ := hi
  obtain ⟨tgr, pg, qg⟩ := hg
  obtain ⟨tb, pb, qb⟩ := hb
  refine ⟨_, ps_for (by rw [hx]; exact PassesOwn.never) hc p pg pb (no_set' hs), fun D Du σ H σu M rs S hf c => ?_⟩
  refine q σ H σu M _ _ rs S hf fun J H1 items g ex M1 st S1 ok hg0 hex hq => ?_
  subst hex
  exact for_core qg qb (rs.stp S st) S1 ok hg0 hq (c.nx.tr S st) (fun σ' H' σu' M' st' rs' S' _ hn => c.nx _ _ _ _ (st.trans S st') rs' S' hn) (c.rt.tr S st)
theorem ss_forK {tgE iter : Expr} {body : List Stmt} {i : Nat} {tg : Tg} {f : WSt} {pos : Pos} (hx : X.xe = fun _ _ => False) (hc : X.calm = true) (hi : PE X iter (tVar i)) (hg : SG X tgE tg) (hb : SSs X f body) (hs : notSet iter = true) : SS X (forW (keysI i) tg f) (.For tgE iter body [] pos) := by
  obtain ⟨tgr, pg, qg⟩ := hg
  obtain ⟨tb, pb, qb⟩ := hb
  refine ⟨_, ps_lock (ps_for (by rw [hx]; exact PassesOwn.never) hc (pi_keys hi) pg pb (no_set' hs)), fun D Du σ H σu M rs S hf c => ?_⟩
  obtain ⟨j, d, t, ks, ej, hs, hm, hq⟩ := hf
  cases ej
  obtain ⟨v, hv, rv⟩ := rs.2 i _ hs
  obtain rfl : v = .ref d := by cases rv; rfl
  obtain ⟨u, hd, mu, lk⟩ := lock_stp S hm
  refine ⟨d, u, hd, mu, fun od => ?_⟩
  obtain ⟨st, S1, hu⟩ := lk od
  have hu1 := hu_stp S st hu
  refine keys_run hv S1 upd_same um_same hu1 fun J ok => ?_
  have un : ∀ {H2 : Hp} {M2 : Hm}, Stp (upd H d (.frz od u)) (um M d (.dct true t ks)) H2 M2 → Sim X.K H2 M2 → M2 d = some (.dct true t ks) → _ := fun {H2 M2} st2 S2 hm2 => unlock_stp S hm upd_same um_same st S1 st2 S2 hm2 (hu_stp S1 st2 hu1)
  have nxK : ContS X.K (upd H d (.frz od u)) (um M d (.dct true t ks)) (fun σ M => M d = some (.dct true t ks) ∧ Du.nx σ (um M d (.dct false t ks))) (fun σ' H' => H' d = some (.frz od u) ∧ D.nx σ' (upd H' d u)) := fun σ' H' σu' M' st' rs' S' ⟨hm', hn⟩ => by
    obtain ⟨e2, st3, S3, f1, f2⟩ := un st' S' hm'
    exact ⟨e2, c.nx _ _ _ _ st3 ⟨rs'.1, fun i u e => let ⟨v, a, b⟩ := rs'.2 i u e; ⟨v, a, f1 _ _ b⟩⟩ S3 hn⟩
  refine for_core (D := ⟨fun σ' H' => H' d = some (.frz od u) ∧ D.nx σ' (upd H' d u), fun v H' => H' d = some (.frz od u) ∧ D.rt v (upd H' d u), fun σ' H' => H' d = some (.frz od u) ∧ D.bk σ' (upd H' d u), fun σ' H' => H' d = some (.frz od u) ∧ D.ct σ' (upd H' d u)⟩) (Du := Du)
    qg qb (rs.stp S st) S1 ok um_same hq nxK (fun σ' H' σu' M' st' rs' S' _ hn => nxK _ _ _ _ st' rs' S' hn) fun v H' x M' st' S' r' ⟨hm', hr⟩ => ?_
  obtain ⟨e2, st3, S3, f1, f2⟩ := un st' S' hm'
  exact ⟨e2, c.rt _ _ _ _ st3 S3 (f1 _ _ r') hr⟩
end
end Pl

set_option maxHeartbeats 4000000
/-! the check of a text against the small syntax, and what it is worth -/
namespace Pl
open PySem L2
structure Ck where
  sc : Scope
  N : List Str
  T : List Df
def visB (sc : Scope) (x : Str) : Bool := match sc.names.lookup x with
  | some .local => true
  | some .cell => true
  | some .free => true
  | _ => false
def locB (sc : Scope) (x : Str) : Bool := match sc.names.lookup x with
  | some .local => true
  | some .cell => true
  | _ => false
def ownB (sc : Scope) (x : Str) : Bool := match sc.names.lookup x with
  | some .local => true
  | _ => false
def glB (sc : Scope) (x : Str) : Bool := match sc.names.lookup x with
  | some .globalImplicit => true
  | _ => false
def okN (x : Str) : Bool := !(x == ("__debug__" : Str)) && !(x == ("__classdict__" : Str)) && !(x == ("__name__" : Str))
def varB (c : Ck) (i : Nat) (x : Str) : Bool := decide (c.N[i]? = some x) && visB c.sc x && okN x
def bfnN : Bfn → Str
  | .len => "len" | .list => "list" | .tuple => "tuple" | .int => "int" | .abs => "abs" | .max => "max" | .min => "min" | .sorted => "sorted" | _ => ""
def bltNames : List Str := ["len", "list", "tuple", "int", "abs", "max", "min", "range", "isinstance", "str", "bool", "sorted", "enumerate"]
def isKeysE : E → Bool
  | .iKeys _ => true
  | _ => false
def isEn : E → Bool
  | .iEnum _ => true
  | _ => false
def isTupE : Expr → Bool
  | .Tuple _ _ _ => true
  | _ => false
/-- enumerate wants a target of several names -/
def enOk (it : E) (g : Expr) : Bool := !isEn it || isTupE g
def ckTg (tg : Tg) (N : List Str) (ok : Str → Bool) : Expr → Bool
  | .Name x _ => (match tg with | .one i => decide (N[i]? = some x) && ok x | _ => false)
  | .Tuple es _ _ => (match tg with | .many is => namesB N ok is es | _ => false)
  | _ => false
def gFn (c : Ck) (f n : Nat) (x : Str) : Bool := (match c.T[f]? with | some d => decide (d.name = x) && decide (d.ps.length = n) | none => false) && (glB c.sc x && okN x)
def gBl (c : Ck) (n x : Str) : Bool := decide (x = n) && (glB c.sc x && okN x)

mutual
def ckE : E → Ck → Expr → Bool
  | .var i, c, e => (match e with | .Name x _ => varB c i x | _ => false)
  | .int i, _, e => (match e with | .Constant (.int j) _ _ => decide (i = j) | _ => false)
  | .str i, _, e => (match e with | .Constant (.str j) _ _ => decide (i = j) | _ => false)
  | .bl i, _, e => (match e with | .Constant (.bool j) _ _ => decide (i = j) | _ => false)
  | .non, _, e => (match e with | .Constant .none _ _ => true | _ => false)
  | .nil, _, _ => false
  | .cons _ _, _, _ => false
  | .tup es, c, e => (match e with | .Tuple xs _ _ => ckL es c xs | _ => false)
  | .lst es, c, e => (match e with | .List xs _ => ckL es c xs | _ => false)
  | .dnew _, _, e => (match e with | .Dict [] [] _ => true | _ => false)
  | .bin op a b, c, e => (match e with | .BinOp x o y _ => decide (o = bopOf op) && (ckE a c x && ckE b c y) | _ => false)
  | .neg a, c, e => (match e with | .UnaryOp .USub x _ => ckE a c x | _ => false)
  | .cmp op a b, c, e => (match e with | .Compare x [o] [y] _ => decide (o = copOf op) && (!behindInMarks o y && (ckE a c x && ckE b c y)) | _ => false)
  | .chain o1 o2 a b d, c, e => (match e with | .Compare x [p, q] [y, z] _ => decide (p = copOf o1) && (decide (q = copOf o2) && (!lastMarks [p, q] [y, z] && (ckE a c x && (ckE b c y && ckE d c z)))) | _ => false)
  | .isN a, c, e => (match e with | .Compare x [.Is] [.Constant .none _ _] _ => ckE a c x | _ => false)
  | .notN a, c, e => (match e with | .Compare x [.IsNot] [.Constant .none _ _] _ => ckE a c x | _ => false)
  | .isB neg b a, c, e => (match e with | .Compare x [o] [.Constant (.bool b') _ _] _ => decide (o = if neg then CmpOp.IsNot else CmpOp.Is) && (decide (b' = b) && ckE a c x) | _ => false)
  | .ands es, c, e => (match e with | .BoolOp .And xs _ => !xs.isEmpty && ckL es c xs | _ => false)
  | .ors es, c, e => (match e with | .BoolOp .Or xs _ => !xs.isEmpty && ckL es c xs | _ => false)
  | .not a, c, e => (match e with | .UnaryOp .Not x _ => ckE a c x | _ => false)
  | .ite d a b, c, e => (match e with | .IfExp x y z _ => ckE d c x && (ckE a c y && ckE b c z) | _ => false)
  | .slice a lo hi, c, e => (match e with
    | .Subscript x (.Slice l h none _) _ => ckE a c x && ((match l with | none => isNil lo | some y => !isNil lo && ckE lo c y) && (match h with | none => isNil hi | some y => !isNil hi && ckE hi c y))
    | _ => false)
  | .ix a i, c, e => (match e with | .Subscript x y _ => notSlice y && (ckE a c x && ckE i c y) | _ => false)
  | .call f es, c, e => (match e with | .Call (.Name x _) xs [] _ => gFn c f xs.length x && ckL es c xs | _ => false)
  | .blt f es, c, e => (match e with | .Call (.Name x _) xs [] _ => gBl c (bfnN f) x && ((bfnV f).isSome && (!xs.isEmpty && ckL es c xs)) | _ => false)
  | .mth m o es, c, e => (match e with
    | .Call (.Attribute y a apos) xs [] pos => (match mfnT m with | some t => decide (a = t.2.1) | none => false) && ((apos.endLine == pos.line) && (notSup y && (decide (xs.length < 10) && (ckE o c y && ckL es c xs))))
    | _ => false)
  | .isinst a t, c, e => (match e with | .Call (.Name x _) [y, .Name z _] [] _ => gBl c "isinstance" x && (gBl c (Str.ofString t) z && (tyOk t && (!isStar y && ckE a c y))) | _ => false)
  | .comp own tg it cnd elt, c, e => (match e with
    | .ListComp x [⟨g, itx, ifs, is_⟩] scope _ => decide (is_ = 0) && ((enOk it g && ckI it c itx) && (notSet itx && (blkC c.N c.sc scope own && (decide (own.map (·.2) = tg.slots) && (ckTg tg c.N (ownB (relS scope c.sc)) g &&
        ((match ifs with | [] => isNil cnd | [i] => !isNil cnd && ckE cnd ⟨relS scope c.sc, c.N, c.T⟩ i | _ => false) && ckE elt ⟨relS scope c.sc, c.N, c.T⟩ x))))))
    | _ => false)
  | .iSeq _, _, _ => false
  | .iRange _, _, _ => false
  | .iRange2 _ _, _, _ => false
  | .iEnum _, _, _ => false
  | .iKeys _, _, _ => false
def ckL : E → Ck → List Expr → Bool
  | .nil, _, xs => xs.isEmpty
  | .cons a b, c, xs => (match xs with | x :: xs => !isStar x && (ckE a c x && ckL b c xs) | [] => false)
  | _, _, _ => false
def ckI : E → Ck → Expr → Bool
  | .iSeq a, c, x => ckE a c x
  | .iRange a, c, e => (match e with | .Call (.Name x _) [y] [] _ => gBl c "range" x && (!isStar y && ckE a c y) | _ => false)
  | .iRange2 a b, c, e => (match e with | .Call (.Name x _) [y, z] [] _ => gBl c "range" x && (!isStar y && (!isStar z && (ckE a c y && ckE b c z))) | _ => false)
  | .iEnum a, c, e => (match e with | .Call (.Name x _) [y] [] _ => gBl c "enumerate" x && (!isStar y && ckE a c y) | _ => false)
  | .iKeys a, c, e => (match e with | .Name x _ => (match a with | .var i => varB c i x | _ => false) | _ => false)
  | _, _, _ => false
end

/-- what stands around -/
structure Gd (X : Cx) (c : Ck) (k : Nat) (fa : Nat → Addr) (fd : Nat → FuncData) (C : CE) : Prop where
  sc : X.env.scope = c.sc
  N : X.N = c.N
  nd : c.N.Nodup
  calm : X.calm = true
  xe : X.xe = fun _ _ => False
  room : Room k X.A
  blt : ∀ x ∈ bltNames, X.mg x = none
  fns : ∀ i d, c.T[i]? = some d → X.mg d.name = some (.ref (fa i)) ∧ PySem.W.keepIn X.K (.ref (fa i)) = true ∧ Binds X.K (fd i) d.ps [] ∧ FnOk X.prog X.w X.K X.mg X.base CX0 k (fa i) (fd i) d.ps (spOf X.K (C i))
section
variable {X : Cx} {c : Ck} {k : Nat} {fa : Nat → Addr} {fd : Nat → FuncData} {C : CE}
theorem Gd.blk (G : Gd X c k fa fd C) (scope : Scope) (s : Shared) (H : Hp) (A : Addr) (cl : List (Str × Addr)) (fp : List Addr) : Gd (Blk X scope s H A cl fp) ⟨relS scope c.sc, c.N, c.T⟩ k fa fd C :=
  ⟨by rw [← G.sc]; rfl, G.N, G.nd, G.calm, rfl, G.room, G.blt, G.fns⟩
theorem Gd.u65 (G : Gd X c k fa fd C) : X.A.units + 65 < cLine := by
  have h := G.room.un
  omega
theorem Gd.u66 (G : Gd X c k fa fd C) : X.A.units + 66 < cLine := by
  have h := G.room.un
  omega
theorem Gd.u1 (G : Gd X c k fa fd C) : X.A.units + 1 < cLine := by
  have h := G.room.un
  omega
theorem vis_of (G : Gd X c k fa fd C) {x : Str} (h : visB c.sc x = true) : Vis X.env.scope x := by
  rw [G.sc]
  unfold visB at h
  unfold Vis
  split at h
  · exact .inl (by assumption)
  · exact .inr (.inl (by assumption))
  · exact .inr (.inr (by assumption))
  · cases h
theorem loc_of (G : Gd X c k fa fd C) {x : Str} (h : locB c.sc x = true) : L2.Loc X.env.scope x := by
  rw [G.sc]
  unfold locB at h
  unfold L2.Loc
  split at h
  · exact .inl (by assumption)
  · exact .inr (by assumption)
  · cases h
theorem own_of (G : Gd X c k fa fd C) {x : Str} (h : ownB c.sc x = true) : X.env.scope.names.lookup x = some .local := by
  rw [G.sc]
  unfold ownB at h
  split at h
  · assumption
  · cases h
theorem gl_of (G : Gd X c k fa fd C) {x : Str} (h : glB c.sc x = true) : Gl X x := by
  show X.env.scope.names.lookup x = some .globalImplicit
  rw [G.sc]
  unfold glB at h
  split at h
  · assumption
  · cases h
theorem okN_of {x : Str} (h : okN x = true) : (x == ("__debug__" : Str)) = false ∧ (x == ("__classdict__" : Str)) = false ∧ x ≠ "__name__" := by
  unfold okN at h
  simp only [Bool.and_eq_true, Bool.not_eq_true'] at h
  exact ⟨h.1.1, h.1.2, fun e => by rw [e] at h; simp at h⟩
theorem pe_varB (G : Gd X c k fa fd C) {i : Nat} {x : Str} {pos : Pos} (h : varB c i x = true) : PE X (.Name x pos) (tVar i) := by
  unfold varB at h
  simp only [Bool.and_eq_true, decide_eq_true_eq] at h
  obtain ⟨a, b, _⟩ := okN_of h.2
  exact pe_var (by rw [G.N]; exact h.1.1) (vis_of G h.1.2) a b
theorem boot_of {f : Bfn} {v : Value} (h : bfnV f = some v) : bootBuiltins (bfnN f) = some v ∧ bfnN f ∈ bltNames := by
  cases f <;> first | (cases h; done) | (cases h; exact ⟨by decide +kernel, by decide +kernel⟩)
/-- and, or over a row -/
def AO (X : Cx) (W : Wp) (es : List Expr) : Prop := ∀ pos, (∃ t, PW X (.BoolOp .And es pos) t ∧ EvT X.K t W.ta) ∧ (∃ t, PW X (.BoolOp .Or es pos) t ∧ EvT X.K t W.to) ∧ SE1 X W.va (.BoolOp .And es pos) ∧ SE1 X W.vo (.BoolOp .Or es pos)
theorem ao_one {W : Wp} {x : Expr} (h : SE X W x) : AO X ⟨fE, fT, fun _ _ _ => False, W.t, W.t, W.e, W.e, fI⟩ [x] := fun pos => by
  obtain ⟨⟨t1, p1, q1⟩, ⟨t2, p2, q2⟩⟩ := h
  exact ⟨⟨_, pw_and1 p2, q2⟩, ⟨_, pw_or1 p2, q2⟩, ⟨_, pe_one p1, q1⟩, ⟨_, pe_one p1, q1⟩⟩
theorem ao_cons {W V : Wp} {x y : Expr} {es : List Expr} (h : SE X W x) (hr : AO X V (y :: es)) :
    AO X ⟨fE, fT, fun _ _ _ => False, fun σ M Q => W.t σ M fun c M1 => if c = true then V.ta σ M1 Q else Q false M1, fun σ M Q => W.t σ M fun c M1 => if c = true then Q true M1 else V.to σ M1 Q,
      fun σ M Q => bW W.e σ M fun c M1 => if c = true then V.va σ M1 Q else Q (.bl false) M1, fun σ M Q => bW W.e σ M fun c M1 => if c = true then Q (.bl true) M1 else V.vo σ M1 Q, fI⟩ (x :: y :: es) := fun pos => by
  obtain ⟨⟨t1, p1, q1⟩, ⟨t2, p2, q2⟩⟩ := h
  obtain ⟨⟨ta, pa, qa⟩, ⟨tb, pb, qb⟩, ⟨tc, pc, qc⟩, ⟨td, pd, qd⟩⟩ := hr pos
  refine ⟨⟨_, pw_and p2 pa, fun σ H σu M Qu Q rs S hf c => ?_⟩, ⟨_, pw_or p2 pb, fun σ H σu M Qu Q rs S hf c => ?_⟩, ⟨_, pe_and p1 pc, fun σ H σu M Qu Q rs S hf c => ?_⟩, ⟨_, pe_or p1 pd, fun σ H σu M Qu Q rs S hf c => ?_⟩⟩
  · refine q2 σ H σu M _ _ rs S hf fun b H1 M1 st S1 hq => ?_
    cases b with
    | true => exact qa σ H1 σu M1 _ _ (rs.stp S st) S1 hq (c.tr S st)
    | false => exact c _ _ _ st S1 hq
  · refine q2 σ H σu M _ _ rs S hf fun b H1 M1 st S1 hq => ?_
    cases b with
    | true => exact c _ _ _ st S1 hq
    | false => exact qb σ H1 σu M1 _ _ (rs.stp S st) S1 hq (c.tr S st)
  · refine q1 σ H σu M _ _ rs S hf fun v H1 u M1 st S1 r hq => ?_
    obtain ⟨b, rfl, hq⟩ := hq
    cases r
    refine ⟨b, rfl, ?_⟩
    cases b with
    | true => exact qc σ H1 σu M1 _ _ (rs.stp S st) S1 hq (c.tr S st)
    | false => exact c _ _ _ _ st S1 (.bl _) hq
  · refine q1 σ H σu M _ _ rs S hf fun v H1 u M1 st S1 r hq => ?_
    obtain ⟨b, rfl, hq⟩ := hq
    cases r
    refine ⟨b, rfl, ?_⟩
    cases b with
    | true => exact c _ _ _ _ st S1 (.bl _) hq
    | false => exact qd σ H1 σu M1 _ _ (rs.stp S st) S1 hq (c.tr S st)
theorem sg_of (G : Gd X c k fa fd C) {tg : Tg} {e : Expr} (h : ckTg tg c.N (ownB c.sc) e = true) : SG X e tg := by
  unfold ckTg at h
  split at h
  · split at h
    · rw [Bool.and_eq_true] at h
      have o := own_of G h.2
      exact sg_one (by rw [G.N]; exact G.nd) (by rw [G.N]; exact of_decide_eq_true h.1) (.inl o) (.inr o)
    · cases h
  · split at h
    · exact sg_many G.calm (by rw [G.N]; exact G.nd) (ok := ownB c.sc) (fun x hx => ⟨.inl (own_of G hx), .inr (own_of G hx)⟩) (by rw [G.N]; exact h)
    · cases h
  · cases h
theorem sg_ofF (G : Gd X c k fa fd C) (hf : ∀ x, X.fn x = true) {tg : Tg} {e : Expr} (h : ckTg tg c.N (locB c.sc) e = true) : SG X e tg := by
  unfold ckTg at h
  split at h
  · split at h
    · rw [Bool.and_eq_true] at h
      exact sg_one (by rw [G.N]; exact G.nd) (by rw [G.N]; exact of_decide_eq_true h.1) (loc_of G h.2) (.inl (hf _))
    · cases h
  · split at h
    · exact sg_many G.calm (by rw [G.N]; exact G.nd) (ok := locB c.sc) (fun x hx => ⟨loc_of G hx, .inl (hf _)⟩) (by rw [G.N]; exact h)
    · cases h
  · cases h
end
def SndE (e : E) : Prop := ∀ (X : Cx) (c : Ck) (k : Nat) (fa : Nat → Addr) (fd : Nat → FuncData) (C : CE), Gd X c k fa fd C → ∀ x, ckE e c x = true → SE X (w C e) x
def SndL (e : E) : Prop := ∀ (X : Cx) (c : Ck) (k : Nat) (fa : Nat → Addr) (fd : Nat → FuncData) (C : CE), Gd X c k fa fd C → ∀ xs, ckL e c xs = true → SA X (w C e).l xs ∧ xs.all (fun e => !isStar e) = true ∧ (xs ≠ [] → AO X (w C e) xs) ∧ (xs = [] → e = .nil)
def SndI (e : E) : Prop := ∀ (X : Cx) (c : Ck) (k : Nat) (fa : Nat → Addr) (fd : Nat → FuncData) (C : CE), Gd X c k fa fd C → ∀ x tg, ckI e c x = true → enOk e tg = true → (SI X tg x (w C e).i) ∨ ∃ i, e = .iKeys (.var i) ∧ PE X x (tVar i)
theorem noE {e : E} (h : ∀ c x, ckE e c x = false) : SndE e := fun X c k fa fd C G x q => by rw [h c x] at q; cases q
theorem noL {e : E} (h : ∀ c x, ckL e c x = false) : SndL e := fun X c k fa fd C G x q => by rw [h c x] at q; cases q
theorem noI {e : E} (h : ∀ c x, ckI e c x = false) : SndI e := fun X c k fa fd C G x tg q _ => by rw [h c x] at q; cases q
/-- a comprehension's parts -/
theorem compOk_of {X : Cx} {c : Ck} {k : Nat} {fa : Nat → Addr} {fd : Nat → FuncData} {C : CE} (G : Gd X c k fa fd C) {cnd elt : E} (sc : SndE cnd) (se : SndE elt) {tg : Tg} {own : List (Str × Nat)} {scope : Scope} {g e : Expr} {ifs : List Expr}
    (hb : blkC c.N c.sc scope own = true) (ho : own.map (·.2) = tg.slots) (ht : ckTg tg c.N (ownB (relS scope c.sc)) g = true)
    (hi : (match ifs with | [] => isNil cnd | [i] => !isNil cnd && ckE cnd ⟨relS scope c.sc, c.N, c.T⟩ i | _ => false) = true) (he : ckE elt ⟨relS scope c.sc, c.N, c.T⟩ e = true) :
    CompOk X g e ifs scope own tg (if isNil cnd = true then fun _ M Q => Q true M else (w C cnd).t) (w C elt).e := by
  refine ⟨G.calm, by rw [G.N]; exact G.nd, ?_, ho, fun s H A cl fp => sg_of (G.blk scope s H A cl fp) ht, ?_, fun s H A cl fp => (se _ _ k fa fd C (G.blk scope s H A cl fp) e he).1⟩
  · rw [G.N, G.sc]
    exact blkOk_by hb
  · split at hi
    · left
      exact ⟨rfl, by rw [if_pos hi]⟩
    · right
      rw [Bool.and_eq_true] at hi
      refine ⟨_, rfl, fun s H A cl fp => ?_⟩
      rw [if_neg (by simpa using hi.1)]
      exact (sc _ _ k fa fd C (G.blk scope s H A cl fp) _ hi.2).2
    · cases hi
theorem gBl_of {X : Cx} {c : Ck} {k : Nat} {fa : Nat → Addr} {fd : Nat → FuncData} {C : CE} (G : Gd X c k fa fd C) {n x : Str} (h : gBl c n x = true) (hn : n ∈ bltNames) : x = n ∧ Gl X x ∧ X.mg x = none ∧ (x == ("__debug__" : Str)) = false ∧ x ≠ "__name__" := by
  unfold gBl at h
  simp only [Bool.and_eq_true, decide_eq_true_eq] at h
  obtain ⟨e, h1, h2⟩ := h
  obtain ⟨a, _, b⟩ := okN_of h2
  exact ⟨e, gl_of G h1, by rw [e]; exact G.blt n hn, a, b⟩
theorem sound (e : E) : SndE e ∧ SndL e ∧ SndI e := by
  induction e with
  | var i =>
    refine ⟨fun X c k fa fd C G x h => ?_, noL fun _ _ => rfl, noI fun _ _ => rfl⟩
    unfold ckE at h
    split at h <;> first | (cases h; done) | skip
    refine .ofE rfl ⟨_, pe_varB G h, ?_⟩
    intro σ H σu M Qu Q rs S ⟨u, e, q⟩ c
    obtain ⟨v, e1, r⟩ := rs.2 i u e
    exact ⟨v, e1, c.at_ S r q⟩
  | int i =>
    refine ⟨fun X c k fa fd C G x h => ?_, noL fun _ _ => rfl, noI fun _ _ => rfl⟩
    unfold ckE at h
    split at h <;> first | (cases h; done) | skip
    obtain rfl : i = _ := of_decide_eq_true h
    exact .ofE rfl se_int
  | str i =>
    refine ⟨fun X c k fa fd C G x h => ?_, noL fun _ _ => rfl, noI fun _ _ => rfl⟩
    unfold ckE at h
    split at h <;> first | (cases h; done) | skip
    obtain rfl : i = _ := of_decide_eq_true h
    exact .ofE rfl se_str
  | bl i =>
    refine ⟨fun X c k fa fd C G x h => ?_, noL fun _ _ => rfl, noI fun _ _ => rfl⟩
    unfold ckE at h
    split at h <;> first | (cases h; done) | skip
    obtain rfl : i = _ := of_decide_eq_true h
    exact .ofE rfl se_bl
  | non =>
    refine ⟨fun X c k fa fd C G x h => ?_, noL fun _ _ => rfl, noI fun _ _ => rfl⟩
    unfold ckE at h
    split at h <;> first | (cases h; done) | skip
    exact .ofE rfl se_non
  | nil =>
    refine ⟨noE fun _ _ => rfl, fun X c k fa fd C G xs h => ?_, noI fun _ _ => rfl⟩
    cases xs with
    | nil => exact ⟨sa_nil, rfl, fun z => absurd rfl z, fun _ => rfl⟩
    | cons _ _ => cases h
  | cons a b iha ihb =>
    refine ⟨noE fun _ _ => rfl, fun X c k fa fd C G xs h => ?_, noI fun _ _ => rfl⟩
    cases xs with
    | nil => cases h
    | cons x xs =>
      have h : (!isStar x && (ckE a c x && ckL b c xs)) = true := h
      rw [Bool.and_eq_true, Bool.and_eq_true] at h
      obtain ⟨h1, h2, h3⟩ := h
      have h1 : isStar x = false := by simpa using h1
      have sa := iha.1 X c k fa fd C G x h2
      obtain ⟨sb, hs, ao, hn⟩ := ihb.2.1 X c k fa fd C G xs h3
      refine ⟨sa_cons h1 sa.1 sb, by rw [List.all_cons, h1, hs]; rfl, fun _ => ?_, fun z => by cases z⟩
      cases xs with
      | nil =>
        have e := hn rfl
        subst e
        exact ao_one sa
      | cons y ys =>
        have hb : isNil b = false := by
          cases b <;> first | rfl | (cases h3; done)
        have hn : ¬ isNil b = true := by rw [hb]; decide
        have e1 : (w C (.cons a b)).ta = fun σ M Q => (w C a).t σ M fun c M1 => if c = true then (w C b).ta σ M1 Q else Q false M1 := if_neg hn
        have e2 : (w C (.cons a b)).to = fun σ M Q => (w C a).t σ M fun c M1 => if c = true then Q true M1 else (w C b).to σ M1 Q := if_neg hn
        have e3 : (w C (.cons a b)).va = fun σ M Q => bW (w C a).e σ M fun c M1 => if c = true then (w C b).va σ M1 Q else Q (.bl false) M1 := if_neg hn
        have e4 : (w C (.cons a b)).vo = fun σ M Q => bW (w C a).e σ M fun c M1 => if c = true then Q (.bl true) M1 else (w C b).vo σ M1 Q := if_neg hn
        have q := ao_cons sa (ao (by simp))
        intro pos
        rw [e1, e2, e3, e4]
        exact q pos
  | tup es ih =>
    refine ⟨fun X c k fa fd C G x h => ?_, noL fun _ _ => rfl, noI fun _ _ => rfl⟩
    unfold ckE at h
    split at h <;> first | (cases h; done) | skip
    exact .ofE rfl (se_tup (ih.2.1 X c k fa fd C G _ h).1)
  | lst es ih =>
    refine ⟨fun X c k fa fd C G x h => ?_, noL fun _ _ => rfl, noI fun _ _ => rfl⟩
    unfold ckE at h
    split at h <;> first | (cases h; done) | skip
    exact .ofE rfl (se_lst (ih.2.1 X c k fa fd C G _ h).1)
  | dnew t =>
    refine ⟨fun X c k fa fd C G x h => ?_, noL fun _ _ => rfl, noI fun _ _ => rfl⟩
    unfold ckE at h
    split at h <;> first | (cases h; done) | skip
    exact .ofE rfl se_dnew
  | bin op a b iha ihb =>
    refine ⟨fun X c k fa fd C G x h => ?_, noL fun _ _ => rfl, noI fun _ _ => rfl⟩
    unfold ckE at h
    split at h <;> first | (cases h; done) | skip
    simp only [Bool.and_eq_true, decide_eq_true_eq] at h
    obtain ⟨rfl, h1, h2⟩ := h
    exact .ofE rfl (se_bin (iha.1 X c k fa fd C G _ h1).1 (ihb.1 X c k fa fd C G _ h2).1)
  | neg a ih =>
    refine ⟨fun X c k fa fd C G x h => ?_, noL fun _ _ => rfl, noI fun _ _ => rfl⟩
    unfold ckE at h
    split at h <;> first | (cases h; done) | skip
    exact .ofE rfl (se_neg (ih.1 X c k fa fd C G _ h).1)
  | cmp op a b iha ihb =>
    refine ⟨fun X c k fa fd C G x h => ?_, noL fun _ _ => rfl, noI fun _ _ => rfl⟩
    unfold ckE at h
    split at h <;> first | (cases h; done) | skip
    simp only [Bool.and_eq_true, decide_eq_true_eq, Bool.not_eq_true'] at h
    obtain ⟨rfl, h0, h1, h2⟩ := h
    exact se_cmp G.u65 (iha.1 X c k fa fd C G _ h1).1 (ihb.1 X c k fa fd C G _ h2).1 h0
  | chain o1 o2 a b d iha ihb ihd =>
    refine ⟨fun X c k fa fd C G x h => ?_, noL fun _ _ => rfl, noI fun _ _ => rfl⟩
    unfold ckE at h
    split at h <;> first | (cases h; done) | skip
    simp only [Bool.and_eq_true, decide_eq_true_eq, Bool.not_eq_true'] at h
    obtain ⟨rfl, rfl, h0, h1, h2, h3⟩ := h
    exact se_chain G.u65 (iha.1 X c k fa fd C G _ h1).1 (ihb.1 X c k fa fd C G _ h2).1 (ihd.1 X c k fa fd C G _ h3).1 h0
  | isN a ih =>
    refine ⟨fun X c k fa fd C G x h => ?_, noL fun _ _ => rfl, noI fun _ _ => rfl⟩
    unfold ckE at h
    split at h <;> first | (cases h; done) | skip
    exact se_isN (ih.1 X c k fa fd C G _ h).1
  | notN a ih =>
    refine ⟨fun X c k fa fd C G x h => ?_, noL fun _ _ => rfl, noI fun _ _ => rfl⟩
    unfold ckE at h
    split at h <;> first | (cases h; done) | skip
    exact se_notN (ih.1 X c k fa fd C G _ h).1
  | isB neg b a ih =>
    refine ⟨fun X c k fa fd C G x h => ?_, noL fun _ _ => rfl, noI fun _ _ => rfl⟩
    unfold ckE at h
    split at h <;> first | (cases h; done) | skip
    simp only [Bool.and_eq_true, decide_eq_true_eq] at h
    obtain ⟨rfl, rfl, h1⟩ := h
    exact se_isB (ih.1 X c k fa fd C G _ h1).1
  | ands es ih =>
    refine ⟨fun X c k fa fd C G x h => ?_, noL fun _ _ => rfl, noI fun _ _ => rfl⟩
    unfold ckE at h
    split at h <;> first | (cases h; done) | skip
    simp only [Bool.and_eq_true, Bool.not_eq_true'] at h
    obtain ⟨h0, h1⟩ := h
    obtain ⟨⟨t, p, q⟩, _, v, _⟩ := (ih.2.1 X c k fa fd C G _ h1).2.2.1 (by intro z; rw [z] at h0; cases h0) _
    exact ⟨v, ⟨_, p.pt, q⟩⟩
  | ors es ih =>
    refine ⟨fun X c k fa fd C G x h => ?_, noL fun _ _ => rfl, noI fun _ _ => rfl⟩
    unfold ckE at h
    split at h <;> first | (cases h; done) | skip
    simp only [Bool.and_eq_true, Bool.not_eq_true'] at h
    obtain ⟨h0, h1⟩ := h
    obtain ⟨_, ⟨t, p, q⟩, _, v⟩ := (ih.2.1 X c k fa fd C G _ h1).2.2.1 (by intro z; rw [z] at h0; cases h0) _
    exact ⟨v, ⟨_, p.pt, q⟩⟩
  | not a ih =>
    refine ⟨fun X c k fa fd C G x h => ?_, noL fun _ _ => rfl, noI fun _ _ => rfl⟩
    unfold ckE at h
    split at h <;> first | (cases h; done) | skip
    exact se_not (ih.1 X c k fa fd C G _ h)
  | ite d a b ihd iha ihb =>
    refine ⟨fun X c k fa fd C G x h => ?_, noL fun _ _ => rfl, noI fun _ _ => rfl⟩
    unfold ckE at h
    split at h <;> first | (cases h; done) | skip
    simp only [Bool.and_eq_true] at h
    obtain ⟨h1, h2, h3⟩ := h
    exact ⟨se_ite (ihd.1 X c k fa fd C G _ h1).2 (iha.1 X c k fa fd C G _ h2).1 (ihb.1 X c k fa fd C G _ h3).1, ⟨fun _ _ _ => False, ⟨fun _ _ _ _ _ _ z => z.elim⟩, fun _ _ _ _ _ _ _ _ z _ => z⟩⟩
  | ix a i iha ihi =>
    refine ⟨fun X c k fa fd C G x h => ?_, noL fun _ _ => rfl, noI fun _ _ => rfl⟩
    unfold ckE at h
    split at h <;> first | (cases h; done) | skip
    simp only [Bool.and_eq_true] at h
    obtain ⟨h0, h1, h2⟩ := h
    exact .ofE rfl (se_ix G.u1 h0 (iha.1 X c k fa fd C G _ h1).1 (ihi.1 X c k fa fd C G _ h2).1)
  | slice a lo hi iha ihl ihh =>
    refine ⟨fun X c k fa fd C G x h => ?_, noL fun _ _ => rfl, noI fun _ _ => rfl⟩
    unfold ckE at h
    split at h <;> first | (cases h; done) | skip
    rw [Bool.and_eq_true, Bool.and_eq_true] at h
    obtain ⟨h1, h2, h3⟩ := h
    have part : ∀ {e : E} {l : Option Expr}, SndE e → (match l with | none => isNil e | some y => !isNil e && ckE e c y) = true → SO X (partW e (w C e).e) l := fun {e l} s h => by
      cases l with
      | none =>
        have h : isNil e = true := h
        have e2 : partW e (w C e).e = fun _ M Q => Q none M := by
          unfold partW
          funext σ M Q
          rw [if_pos h]
        rw [e2]
        exact so_none
      | some y =>
        have h : (!isNil e && ckE e c y) = true := h
        rw [Bool.and_eq_true] at h
        have e2 : partW e (w C e).e = fun σ M Q => (w C e).e σ M fun x M1 => ∃ i, x = .int i ∧ Q (some i) M1 := by
          unfold partW
          funext σ M Q
          rw [if_neg (by simpa using h.1)]
        rw [e2]
        exact so_some (s X c k fa fd C G _ h.2).1
    exact .ofE rfl (se_slice (iha.1 X c k fa fd C G _ h1).1 (part ihl.1 h2) (part ihh.1 h3))
  | call f es ih =>
    refine ⟨fun X c k fa fd C G x h => ?_, noL fun _ _ => rfl, noI fun _ _ => rfl⟩
    unfold ckE at h
    split at h <;> first | (cases h; done) | skip
    rename_i e x p xs pos
    rw [Bool.and_eq_true] at h
    obtain ⟨h1, h2⟩ := h
    unfold gFn at h1
    rw [Bool.and_eq_true, Bool.and_eq_true] at h1
    obtain ⟨h3, h4, h5⟩ := h1
    obtain ⟨o1, _, _⟩ := okN_of h5
    cases hd : c.T[f]? with
    | none => rw [hd] at h3; cases h3
    | some d =>
      rw [hd] at h3
      simp only [Bool.and_eq_true, decide_eq_true_eq] at h3
      obtain ⟨rfl, h3⟩ := h3
      obtain ⟨g1, g2, g3, g4⟩ := G.fns f d hd
      obtain ⟨sa, ns, _, hn⟩ := ih.2.1 X c k fa fd C G _ h2
      cases xs with
      | nil =>
        have e := hn rfl
        subst e
        exact .ofE rfl (se_call0 g4 G.room (gl_of G h4) g1 g2 g3 o1)
      | cons y ys => exact .ofE rfl (se_call g4 G.room (gl_of G h4) g1 g2 g3 o1 ns sa)
  | blt f es ih =>
    refine ⟨fun X c k fa fd C G x h => ?_, noL fun _ _ => rfl, noI fun _ _ => rfl⟩
    unfold ckE at h
    split at h <;> first | (cases h; done) | skip
    rename_i e x p xs pos
    rw [Bool.and_eq_true, Bool.and_eq_true, Bool.and_eq_true] at h
    obtain ⟨h1, h2, h3, h4⟩ := h
    obtain ⟨v, hv⟩ := Option.isSome_iff_exists.mp h2
    obtain ⟨b1, b2⟩ := boot_of hv
    obtain ⟨e1, e2, e3, e4, e5⟩ := gBl_of G h1 b2
    obtain ⟨sa, ns, _, hn⟩ := ih.2.1 X c k fa fd C G _ h4
    cases xs with
    | nil => cases h3
    | cons y ys => exact .ofE rfl (se_blt G.calm G.u66 hv e2 e3 (by rw [e1]; exact b1) e5 e4 ns sa)
  | mth m o es iho ih =>
    refine ⟨fun X c k fa fd C G x h => ?_, noL fun _ _ => rfl, noI fun _ _ => rfl⟩
    unfold ckE at h
    split at h <;> first | (cases h; done) | skip
    rename_i e y a apos xs pos
    rw [Bool.and_eq_true, Bool.and_eq_true, Bool.and_eq_true, Bool.and_eq_true, Bool.and_eq_true] at h
    obtain ⟨h1, h2, h3, h4, h5, h6⟩ := h
    cases hm : mfnT m with
    | none => rw [hm] at h1; cases h1
    | some t =>
      rw [hm] at h1
      obtain ⟨T, n, id⟩ := t
      obtain rfl : a = n := of_decide_eq_true h1
      obtain ⟨sa, ns, _, hn⟩ := ih.2.1 X c k fa fd C G _ h6
      exact .ofE rfl (se_mth hm ns (of_decide_eq_true h4) h2 h3 (iho.1 X c k fa fd C G _ h5).1 sa fun z => by rw [hn z]; rfl)
  | isinst a t ih =>
    refine ⟨fun X c k fa fd C G x h => ?_, noL fun _ _ => rfl, noI fun _ _ => rfl⟩
    unfold ckE at h
    split at h <;> first | (cases h; done) | skip
    rw [Bool.and_eq_true, Bool.and_eq_true, Bool.and_eq_true, Bool.and_eq_true] at h
    obtain ⟨h1, h2, h3, h4, h5⟩ := h
    obtain ⟨e1, e2, e3, e4, e5⟩ := gBl_of G h1 (by decide +kernel)
    have ht2 : Str.ofString t ∈ bltNames := by
      have h3 := h3
      unfold tyOk at h3
      simp only [Bool.or_eq_true, beq_iff_eq] at h3
      rcases h3 with (((h | h) | h) | h) | h <;> subst h <;> decide +kernel
    obtain ⟨f1, f2, f3, f4, f5⟩ := gBl_of G h2 ht2
    exact se_isinst h3 e1 f1 e2 e3 f2 f3 (by simpa using h4) (ih.1 X c k fa fd C G _ h5).1
  | comp own tg it cnd elt ih1 ih2 ih3 =>
    refine ⟨fun X c k fa fd C G x h => ?_, noL fun _ _ => rfl, noI fun _ _ => rfl⟩
    unfold ckE at h
    split at h <;> first | (cases h; done) | skip
    rename_i e x g itx ifs is_ scope pos
    rw [Bool.and_eq_true, Bool.and_eq_true, Bool.and_eq_true, Bool.and_eq_true, Bool.and_eq_true, Bool.and_eq_true, Bool.and_eq_true, Bool.and_eq_true] at h
    obtain ⟨h1, ⟨hen, h2⟩, h3, h4, h5, h6, h7, h8⟩ := h
    obtain rfl : is_ = 0 := of_decide_eq_true h1
    have co := compOk_of G ih2.1 ih3.1 h4 (of_decide_eq_true h5) h6 h7 h8
    rcases ih1.2.2 X c k fa fd C G itx g h2 hen with hi | ⟨i, rfl, hi⟩
    · exact .ofE rfl (se_comp hi co h3)
    · exact .ofE rfl (se_compK hi co h3)
  | iSeq a ih =>
    refine ⟨noE fun _ _ => rfl, noL fun _ _ => rfl, fun X c k fa fd C G x tg h hen => .inl ?_⟩
    exact si_seq (ih.1 X c k fa fd C G _ h).1
  | iRange a ih =>
    refine ⟨noE fun _ _ => rfl, noL fun _ _ => rfl, fun X c k fa fd C G x tg h hen => .inl ?_⟩
    unfold ckI at h
    split at h <;> first | (cases h; done) | skip
    rw [Bool.and_eq_true, Bool.and_eq_true] at h
    obtain ⟨h1, h2, h3⟩ := h
    obtain ⟨e1, e2, e3, e4, e5⟩ := gBl_of G h1 (by decide +kernel)
    exact si_rng e1 e2 e3 (by simpa using h2) (ih.1 X c k fa fd C G _ h3).1
  | iRange2 a b iha ihb =>
    refine ⟨noE fun _ _ => rfl, noL fun _ _ => rfl, fun X c k fa fd C G x tg h hen => .inl ?_⟩
    unfold ckI at h
    split at h <;> first | (cases h; done) | skip
    rw [Bool.and_eq_true, Bool.and_eq_true, Bool.and_eq_true, Bool.and_eq_true] at h
    obtain ⟨h1, h2, h3, h4, h5⟩ := h
    obtain ⟨e1, e2, e3, e4, e5⟩ := gBl_of G h1 (by decide +kernel)
    exact si_rng2 e1 e2 e3 (by simpa using h2) (by simpa using h3) (iha.1 X c k fa fd C G _ h4).1 (ihb.1 X c k fa fd C G _ h5).1
  | iEnum a ih =>
    refine ⟨noE fun _ _ => rfl, noL fun _ _ => rfl, fun X c k fa fd C G x tg h hen => .inl ?_⟩
    cases tg <;> first | (cases hen; done) | skip
    unfold ckI at h
    split at h <;> first | (cases h; done) | skip
    rw [Bool.and_eq_true, Bool.and_eq_true] at h
    obtain ⟨h1, h2, h3⟩ := h
    obtain ⟨e1, e2, e3, e4, e5⟩ := gBl_of G h1 (by decide +kernel)
    exact si_enum e1 e2 e3 (by simpa using h2) (ih.1 X c k fa fd C G _ h3).1
  | iKeys a ih =>
    refine ⟨noE fun _ _ => rfl, noL fun _ _ => rfl, fun X c k fa fd C G x tg h hen => .inr ?_⟩
    unfold ckI at h
    split at h <;> first | (cases h; done) | skip
    split at h <;> first | (cases h; done) | skip
    exact ⟨_, rfl, pe_varB G h⟩
end Pl

set_option maxHeartbeats 4000000
/-! statements and defs: the check and its worth -/
namespace Pl
open PySem L2
/-- a comprehension stored by its own rule -/
def swapB (x : Str) (p' : Pos) (v : Expr) : Bool := match v with
  | .ListComp _ _ scope vp => (p'.line == vp.line) && !(scope.names.any fun (n, k) => n == x && (k == .local || k == .cell))
  | _ => false
mutual
def ckS : S → Ck → Stmt → Bool
  | .skip, _, st => (match st with | .Pass _ => true | _ => false)
  | .seq _ _, _, _ => false
  | .asg i e, c, st => (match st with
    | .Assign [.Name x p'] v _ => decide (c.N[i]? = some x) && (locB c.sc x && (ckE e c v && (if isComp v = true then swapB x p' v else true)))
    | _ => false)
  | .asgT is e, c, st => (match st with | .Assign [.Tuple es _ _] v _ => namesB c.N (locB c.sc) is es && (notTup v && ckE e c v) | _ => false)
  | .par _ _ _ _, _, _ => false
  | .setIx o i e, c, st => (match st with | .Assign [.Subscript x y _] v _ => notSlice y && (ckE e c v && (ckE o c x && ckE i c y)) | _ => false)
  | .augV i op e, c, st => (match st with | .AugAssign (.Name x _) o v _ => decide (iopOf op = some o) && (decide (c.N[i]? = some x) && (locB c.sc x && ckE e c v)) | _ => false)
  | .augIx o i op e, c, st => (match st with | .AugAssign (.Subscript x y _) oo v _ => decide (iopOf op = some oo) && (notSlice y && (ckE o c x && (ckE i c y && ckE e c v))) | _ => false)
  | .ifs d a b, c, st => (match st with | .If x p q _ => ckE d c x && (ckB a c p && ckB b c q) | _ => false)
  | .for_ tg it b, c, st => (match st with | .For g x body [] _ => ckTg tg c.N (locB c.sc) g && ((enOk it g && ckI it c x) && (notSet x && ckB b c body)) | _ => false)
  | .whl d b, c, st => (match st with | .While x body [] _ => ckE d c x && ckB b c body | _ => false)
  | .ret e, c, st => (match st with | .Return (some x) _ => ckE e c x | _ => false)
  | .retN, _, st => (match st with | .Return none _ => true | _ => false)
  | .brk, _, st => (match st with | .Break _ => true | _ => false)
  | .cnt, _, st => (match st with | .Continue _ => true | _ => false)
  | .expr e, c, st => (match st with | .Expr x _ => !isComp x && ckE e c x | _ => false)
  | .nvr, _, _ => true
def ckB : S → Ck → List Stmt → Bool
  | .skip, _, sts => sts.isEmpty
  | .seq a b, c, sts => (match sts with | st :: r => ckS a c st && ckB b c r | [] => false)
  | .nvr, _, _ => true
  | _, _, _ => false
end
section
variable {X : Cx} {c : Ck} {k : Nat} {fa : Nat → Addr} {fd : Nat → FuncData} {C : CE}
theorem swap_of (G : Gd X c k fa fd C) {x : Str} {p' vp : Pos} {elt : Expr} {gs : List Comprehension} {scope : Scope} {l : Nat} (hk : X.env.scope.kind = .function) (hs : swapB x p' (.ListComp elt gs scope vp) = true) :
    (ownB c.sc x = true → swapsWith (.ListComp elt gs scope vp) (some (.Name x p')) l X.env = pure true) ∧ (ownB c.sc x = false → swapsWith (.ListComp elt gs scope vp) (some (.Name x p')) l X.env = pure false) := by
  unfold swapB at hs
  rw [Bool.and_eq_true] at hs
  have h2 : (scope.names.any fun (n, k) => n == x && (k == .local || k == .cell)) = false := by simpa using hs.2
  refine ⟨fun h => sw_true hk (own_of G h) hs.1 h2, fun h => ?_⟩
  have hb : X.env.blockKind = .function := by unfold Env.blockKind; rw [hk]; rfl
  have hn : (X.env.kindOf x == some .local) = false := by
    have e : X.env.kindOf x = c.sc.names.lookup x := by
      show X.env.scope.names.lookup x = _
      rw [G.sc]
    rw [e]
    unfold ownB at h
    split at h
    · cases h
    · rename_i hz
      cases q : c.sc.names.lookup x with
      | none => rfl
      | some kd => cases kd <;> first | rfl | exact absurd q hz
  unfold swapsWith
  simp only [hn, Bool.and_false, Bool.false_and]
theorem comp_parts (G : Gd X c k fa fd C) {e : E} {x : Expr} {gens : List Comprehension} {scope : Scope} {pos : Pos} (h : ckE e c (.ListComp x gens scope pos) = true) :
    ∃ own tg it fc fe g itx ifs, gens = [⟨g, itx, ifs, 0⟩] ∧ (w C e).e = compW (w C it).i tg fc fe ∧ CompOk X g x ifs scope own tg fc fe ∧ notSet itx = true ∧ (SI X g itx (w C it).i ∨ ∃ i, it = .iKeys (.var i) ∧ PE X itx (tVar i)) := by
  cases e <;> first | (unfold ckE at h; cases h; done) | (unfold ckE at h; simp at h; done) | skip
  rename_i own tg it cnd elt
  unfold ckE at h
  split at h <;> first | (cases h; done) | skip
  rename_i e2 x2 g itx ifs is_ scope2 pos2 heq
  cases heq
  rw [Bool.and_eq_true, Bool.and_eq_true, Bool.and_eq_true, Bool.and_eq_true, Bool.and_eq_true, Bool.and_eq_true, Bool.and_eq_true, Bool.and_eq_true] at h
  obtain ⟨h1, ⟨hen, h2⟩, h3, h4, h5, h6, h7, h8⟩ := h
  obtain rfl : is_ = 0 := of_decide_eq_true h1
  have co := compOk_of G (sound cnd).1 (sound elt).1 h4 (of_decide_eq_true h5) h6 h7 h8
  exact ⟨own, tg, it, _, _, g, itx, ifs, rfl, rfl, co, h3, (sound it).2.2 X c k fa fd C G itx g h2 hen⟩
end
def SndS (a : S) : Prop := ∀ (X : Cx) (c : Ck) (k : Nat) (fa : Nat → Addr) (fd : Nat → FuncData) (C : CE), Gd X c k fa fd C → (∀ x, X.fn x = true) → X.env.scope.kind = .function → ∀ st, ckS a c st = true → SS X (wS C a) st
def SndB (a : S) : Prop := ∀ (X : Cx) (c : Ck) (k : Nat) (fa : Nat → Addr) (fd : Nat → FuncData) (C : CE), Gd X c k fa fd C → (∀ x, X.fn x = true) → X.env.scope.kind = .function → ∀ sts, ckB a c sts = true → SSs X (wS C a) sts
theorem noB {a : S} (h : ∀ c x, ckB a c x = false) : SndB a := fun X c k fa fd C G hf hk x q => by rw [h c x] at q; cases q
theorem noS {a : S} (h : ∀ c x, ckS a c x = false) : SndS a := fun X c k fa fd C G hf hk x q => by rw [h c x] at q; cases q
theorem soundS (a : S) : SndS a ∧ SndB a := by
  induction a with
  | skip =>
    refine ⟨fun X c k fa fd C G hf hk st h => ?_, fun X c k fa fd C G hf hk sts h => ?_⟩
    · unfold ckS at h
      split at h <;> first | (cases h; done) | skip
      exact ss_pass
    · cases sts with
      | nil => exact sss_nil
      | cons _ _ => cases h
  | seq a b iha ihb =>
    refine ⟨noS fun _ _ => rfl, fun X c k fa fd C G hf hk sts h => ?_⟩
    cases sts with
    | nil => cases h
    | cons st r =>
      have h : (ckS a c st && ckB b c r) = true := h
      rw [Bool.and_eq_true] at h
      exact sss_cons (f := wS C a) (g := wS C b) (iha.1 X c k fa fd C G hf hk st h.1) (ihb.2 X c k fa fd C G hf hk r h.2)
  | asg i e =>
    refine ⟨fun X c k fa fd C G hf hk st h => ?_, noB fun _ _ => rfl⟩
    unfold ckS at h
    split at h <;> first | (cases h; done) | skip
    rename_i st x p' v pos
    rw [Bool.and_eq_true, Bool.and_eq_true, Bool.and_eq_true] at h
    obtain ⟨h1, h2, h3, h4⟩ := h
    have hN : X.N.Nodup := by rw [G.N]; exact G.nd
    have hi : X.N[i]? = some x := by rw [G.N]; exact of_decide_eq_true h1
    cases hc : isComp v with
    | false => exact ss_asg hN hi (loc_of G h2) (no_swap hc) (hf x) ((sound e).1 X c k fa fd C G v h3).1
    | true =>
      rw [if_pos hc] at h4
      cases v <;> first | (cases h4; done) | skip
      rename_i elt gens scope vp
      obtain ⟨s1, s2⟩ := swap_of (l := pos.line) G hk h4
      cases ho : ownB c.sc x with
      | false => exact ss_asg hN hi (loc_of G h2) (s2 ho) (hf x) ((sound e).1 X c k fa fd C G _ h3).1
      | true =>
        obtain ⟨own, tg, it, fc, fe, g, itx, ifs, rfl, ew, co, hs, hit⟩ := comp_parts G h3
        show SS X (fun D σ M => (w C e).e σ M fun x M1 => D.nx (σ.set i (some x)) M1) _
        rw [ew]
        rcases hit with hit | ⟨j, rfl, hit⟩
        · exact ss_asgC hi (own_of G ho) (s1 ho) hit co hs
        · exact ss_asgCK hi (own_of G ho) (s1 ho) hit co hs
  | asgT is e =>
    refine ⟨fun X c k fa fd C G hf hk st h => ?_, noB fun _ _ => rfl⟩
    unfold ckS at h
    split at h <;> first | (cases h; done) | skip
    rw [Bool.and_eq_true, Bool.and_eq_true] at h
    obtain ⟨h1, h2, h3⟩ := h
    exact ss_asgT G.calm (by rw [G.N]; exact G.nd) (ok := locB c.sc) (fun x hx => ⟨loc_of G hx, .inl (hf x)⟩) (by rw [G.N]; exact h1) h2 ((sound e).1 X c k fa fd C G _ h3).1
  | par i j a b => exact ⟨noS fun _ _ => rfl, noB fun _ _ => rfl⟩
  | setIx o i e =>
    refine ⟨fun X c k fa fd C G hf hk st h => ?_, noB fun _ _ => rfl⟩
    unfold ckS at h
    split at h <;> first | (cases h; done) | skip
    rw [Bool.and_eq_true, Bool.and_eq_true, Bool.and_eq_true] at h
    obtain ⟨h0, h1, h2, h3⟩ := h
    exact ss_setIx G.u1 ((sound e).1 X c k fa fd C G _ h1).1 ((sound o).1 X c k fa fd C G _ h2).1 ((sound i).1 X c k fa fd C G _ h3).1 h0
  | augV i op e =>
    refine ⟨fun X c k fa fd C G hf hk st h => ?_, noB fun _ _ => rfl⟩
    unfold ckS at h
    split at h <;> first | (cases h; done) | skip
    rw [Bool.and_eq_true, Bool.and_eq_true, Bool.and_eq_true] at h
    obtain ⟨h0, h1, h2, h3⟩ := h
    exact ss_augV (of_decide_eq_true h0) (by rw [G.N]; exact G.nd) (by rw [G.N]; exact of_decide_eq_true h1) (loc_of G h2) (hf _) ((sound e).1 X c k fa fd C G _ h3).1
  | augIx o i op e =>
    refine ⟨fun X c k fa fd C G hf hk st h => ?_, noB fun _ _ => rfl⟩
    unfold ckS at h
    split at h <;> first | (cases h; done) | skip
    rw [Bool.and_eq_true, Bool.and_eq_true, Bool.and_eq_true, Bool.and_eq_true] at h
    obtain ⟨h0, hs, h1, h2, h3⟩ := h
    exact ss_augIx (of_decide_eq_true h0) G.u1 ((sound o).1 X c k fa fd C G _ h1).1 ((sound i).1 X c k fa fd C G _ h2).1 ((sound e).1 X c k fa fd C G _ h3).1 hs
  | ifs d a b iha ihb =>
    refine ⟨fun X c k fa fd C G hf hk st h => ?_, noB fun _ _ => rfl⟩
    unfold ckS at h
    split at h <;> first | (cases h; done) | skip
    rw [Bool.and_eq_true, Bool.and_eq_true] at h
    obtain ⟨h1, h2, h3⟩ := h
    exact ss_if ((sound d).1 X c k fa fd C G _ h1).2 (iha.2 X c k fa fd C G hf hk _ h2) (ihb.2 X c k fa fd C G hf hk _ h3)
  | for_ tg it b ih =>
    refine ⟨fun X c k fa fd C G hf hk st h => ?_, noB fun _ _ => rfl⟩
    unfold ckS at h
    split at h <;> first | (cases h; done) | skip
    rename_i st g x body pos
    rw [Bool.and_eq_true, Bool.and_eq_true, Bool.and_eq_true, Bool.and_eq_true] at h
    obtain ⟨h1, ⟨hen, h2⟩, h3, h4⟩ := h
    have hb := ih.2 X c k fa fd C G hf hk _ h4
    rcases (sound it).2.2 X c k fa fd C G x g h2 hen with hi | ⟨i, rfl, hi⟩
    · exact ss_for G.xe G.calm hi (sg_ofF G hf h1) hb h3
    · exact ss_forK G.xe G.calm hi (sg_ofF G hf h1) hb h3
  | whl d b ih =>
    refine ⟨fun X c k fa fd C G hf hk st h => ?_, noB fun _ _ => rfl⟩
    unfold ckS at h
    split at h <;> first | (cases h; done) | skip
    rw [Bool.and_eq_true] at h
    exact ss_whl G.xe ((sound d).1 X c k fa fd C G _ h.1).2 (ih.2 X c k fa fd C G hf hk _ h.2)
  | ret e =>
    refine ⟨fun X c k fa fd C G hf hk st h => ?_, noB fun _ _ => rfl⟩
    unfold ckS at h
    split at h <;> first | (cases h; done) | skip
    exact ss_ret ((sound e).1 X c k fa fd C G _ h).1
  | retN =>
    refine ⟨fun X c k fa fd C G hf hk st h => ?_, noB fun _ _ => rfl⟩
    unfold ckS at h
    split at h <;> first | (cases h; done) | skip
    exact ss_retN
  | brk =>
    refine ⟨fun X c k fa fd C G hf hk st h => ?_, noB fun _ _ => rfl⟩
    unfold ckS at h
    split at h <;> first | (cases h; done) | skip
    exact ss_break
  | cnt =>
    refine ⟨fun X c k fa fd C G hf hk st h => ?_, noB fun _ _ => rfl⟩
    unfold ckS at h
    split at h <;> first | (cases h; done) | skip
    exact ss_cont
  | expr e =>
    refine ⟨fun X c k fa fd C G hf hk st h => ?_, noB fun _ _ => rfl⟩
    unfold ckS at h
    split at h <;> first | (cases h; done) | skip
    rw [Bool.and_eq_true] at h
    exact ss_expr (by simpa using h.1) ((sound e).1 X c k fa fd C G _ h.2).1
  | nvr => exact ⟨fun X c k fa fd C G hf hk st h => ss_nvr, fun X c k fa fd C G hf hk sts h => sss_nvr⟩
end Pl

set_option maxHeartbeats 400000
/-! the defs of a text keep their promises -/
namespace Pl
open PySem L2
def scopeB (N ps : List Str) (sc : Scope) : Bool :=
  decide (sc.kind = .function) && (!sc.isCoroutine && (!sc.isGenerator && (decide N.Nodup && (decide (N.take ps.length = ps) && ((ps.all fun x => locB sc x) && sc.names.all fun y => decide (y.2 ≠ .free))))))
theorem scope_of {N ps : List Str} {sc : Scope} (h : scopeB N ps sc = true) : FnScope N ps sc := by
  unfold scopeB at h
  simp only [Bool.and_eq_true, decide_eq_true_eq, Bool.not_eq_true', List.all_eq_true] at h
  obtain ⟨h1, h2, h3, h4, h5, h6, h7⟩ := h
  refine ⟨h1, h2, h3, h4, h5, fun x hx => ?_, fun y hy => h7 y hy⟩
  have q := h6 x hx
  unfold locB at q
  split at q
  · exact .inl (by assumption)
  · exact .inr (by assumption)
  · cases q
/-- one def against its text -/
def ckF (T : List Df) (d : Df) (st : Stmt) : Bool := scopeB d.N d.ps (defScope st) && ckB d.b ⟨defScope st, d.N, T⟩ (defBody st)
/-- its arguments bind -/
def BindP (x : Str) (st : Stmt) (ps : List Str) : Prop := ∀ (kV doc pm : Value) (an : Option Addr) (cdv ct : Value) (us : List Value), us.length = ps.length → bindArgs (PySem.W.fnOf x x (defArgs st) (defBody st) (defScope st) .none kV doc pm an cdv ct) ⟨us, []⟩ = pure (ps.zip us)
theorem Cs_len {T : List Df} {k i : Nat} {d : Df} {us : List U} {M : Hm} {Q : QU} (hd : T[i]? = some d) (h : Cs T k i us M Q) : us.length = d.ps.length := by
  cases k with
  | zero => exact h.elim
  | succ k =>
    obtain ⟨d', hd', hl, _⟩ := h
    rw [hd] at hd'
    cases hd'
    exact hl
theorem relS_start {K : Fg} {H : Hp} {N : List Str} {vs : List V} {us : List U} (r : RelL K H vs us) : RelS K H (L2.start N vs) (startU N.length us) := by
  refine ⟨by unfold L2.start startU; simp [r.length], fun i u e => ?_⟩
  unfold startU at e
  by_cases hi : i < us.length
  · rw [List.getElem?_append_left (by simpa using hi), List.getElem?_map] at e
    cases q : us[i]? with
    | none => rw [q] at e; cases e
    | some u' =>
      rw [q] at e
      cases e
      obtain ⟨v, hv, rv⟩ := r.get q
      refine ⟨v, ?_, rv⟩
      unfold L2.start
      rw [List.getElem?_append_left (by simpa [r.length] using hi), List.getElem?_map, hv]
      rfl
  · rw [List.getElem?_append_right (by simpa using hi)] at e
    rw [List.getElem?_replicate] at e
    split at e <;> cases e
section
variable {P : Program} {wd : World} {K : Fg} {mg : Str → Option Value} {base : Heap}
theorem fn_ok {T : List Df} {fa : Nat → Addr} {fd : Nat → FuncData}
    (hF : ∀ i d, T[i]? = some d → ∃ st, FunD K d.name d.name (defArgs st) (defBody st) (defScope st) [] [] (fa i) (fd i) ∧ ckF T d st = true ∧ BindP d.name st d.ps)
    (hmg : ∀ i d, T[i]? = some d → mg d.name = some (.ref (fa i))) (hblt : ∀ x ∈ bltNames, mg x = none) :
    ∀ (k i : Nat) (d : Df), T[i]? = some d → FnOk P wd K mg base CX0 k (fa i) (fd i) d.ps (spOf K (Cs T k i)) := by
  intro k
  induction k with
  | zero =>
    intro i d hd
    refine ⟨fun vs H Q E ⟨us, M, Qu, S, r, h, c⟩ => h.elim, fun A outer s H args us vs Q E _ _ _ _ ⟨_, _, _, _, _, h, _⟩ => h.elim⟩
  | succ k ih =>
    intro i d hd
    obtain ⟨st, F, ck, _⟩ := hF i d hd
    unfold ckF at ck
    rw [Bool.and_eq_true] at ck
    refine F.ok (scope_of ck.1) (fun vs H Q E ⟨us, M, Qu, S, r, h, c⟩ => by rw [r.length]; exact Cs_len hd h) (fun cdv A outer s H vs Q E hr ⟨us, M, Qu, S, r, h, c⟩ => ?_)
    have G : Gd (cxOf CX0 P wd K mg base d.N d.name (defScope st) (fa i) cdv A outer s H E).nox ⟨defScope st, d.N, T⟩ k fa fd (Cs T k) := by
      refine ⟨rfl, rfl, (scope_of ck.1).nd, rfl, rfl, hr, hblt, fun j dj hj => ?_⟩
      obtain ⟨stj, Fj, _, bj⟩ := hF j dj hj
      exact ⟨hmg j dj hj, Fj.kp, Fj.bindsN bj, ih j dj hj⟩
    obtain ⟨t, p, q⟩ := (soundS d.b).2 _ _ k fa fd (Cs T k) G (fun _ => rfl) (scope_of ck.1).kind _ ck.2
    refine ⟨t, p.nox, ?_⟩
    obtain ⟨d', hd', hl, hw⟩ := h
    rw [hd] at hd'
    cases hd'
    refine q _ _ _ H _ M (relS_start r) S hw ⟨fun σ' H' σu' M' st' rs' S' ⟨M2, sb, hq⟩ => ?_, fun v H' u M' st' S' rv ⟨M2, sb, hq⟩ => ?_, fun _ _ _ _ _ _ _ z => z.elim, fun _ _ _ _ _ _ _ z => z.elim⟩
    · exact c _ _ .non M2 (st'.trans S (Stp.sub sb)) (S'.sub sb) .non hq
    · exact c _ _ u M2 (st'.trans S (Stp.sub sb)) (S'.sub sb) rv hq
end

/-! ### the head's facts for such a text -/
def nameOf : Stmt → Str
  | .FunctionDef n .. => n
  | _ => ""
def mkD (st : Stmt) : He.DefD := ⟨(nameOf st, none), nameOf st, nameOf st, defArgs st, defBody st, defScope st, [], []⟩
/-- the table against the text, def by def -/
def ckT (T : List Df) (sts : List Stmt) : Bool := decide (T.length = sts.length) && (List.zip T sts).all fun (p : Df × Stmt) => decide (nameOf p.2 = p.1.name) && ckF T p.1 p.2
theorem ckT_at {T : List Df} {sts : List Stmt} (h : ckT T sts = true) {i : Nat} {d : Df} (hd : T[i]? = some d) : ∃ st, sts[i]? = some st ∧ nameOf st = d.name ∧ ckF T d st = true := by
  unfold ckT at h
  rw [Bool.and_eq_true, decide_eq_true_eq] at h
  obtain ⟨h1, h2⟩ := h
  have hi := (List.getElem?_eq_some_iff.mp hd).1
  have hs : sts[i]? = some (sts[i]'(by omega)) := List.getElem?_eq_getElem (by omega)
  have hz : (List.zip T sts)[i]? = some (d, sts[i]'(by omega)) := by
    rw [List.getElem?_zip_eq_some]
    exact ⟨hd, hs⟩
  have q := List.all_eq_true.mp h2 _ (List.mem_of_getElem? hz)
  rw [Bool.and_eq_true, decide_eq_true_eq] at q
  exact ⟨_, hs, q.1, q.2⟩
/-- all that the head must tell -/
def facts (T : List Df) : List He.Fa := T.map (fun d => .glo d.name) ++ bltNames.map He.Fa.free
theorem vref_inj {a b : Addr} (h : (some (Value.ref a) : Option Value) = some (Value.ref b)) : a = b := by
  injection h with h
  injection h
theorem opt_inj {α : Type} {a b : α} (h : some a = some b) : a = b := by injection h
/-- where the def of a name lies -/
noncomputable def faOf (T : List Df) (K : Fg) (i : Nat) : Addr := (T[i]?).elim 0 fun d => He.fAd K (d.name, none)
theorem faOf_at {T : List Df} {K : Fg} {i : Nat} {d : Df} (h : T[i]? = some d) : faOf T K i = He.fAd K (d.name, none) := by
  unfold faOf
  rw [h]
  rfl
theorem hglo_of {K : Fg} {h : Heap} {mg : Str → Option Value} {T : List Df} {sts : List Stmt} (X : K.In h) (G : h.Ns mainGlobals mg) (c : He.SaysD (facts T) (sts.map mkD) K) {i : Nat} {d : Df} (hd : T[i]? = some d) : mg d.name = some (.ref (faOf T K i)) := by
  have hi := (List.getElem?_eq_some_iff.mp hd).1
  have e : (facts T)[i]? = some (.glo d.name) := by
    unfold facts
    rw [List.getElem?_append_left (by rw [List.length_map]; exact hi), List.getElem?_map, hd]
    rfl
  have q := c.fact i e
  rw [faOf_at hd]
  exact He.glo_ok X G q
theorem hfree_of {K : Fg} {h : Heap} {mg : Str → Option Value} {T : List Df} {sts : List Stmt} (X : K.In h) (G : h.Ns mainGlobals mg) (c : He.SaysD (facts T) (sts.map mkD) K) : ∀ x ∈ bltNames, mg x = none := fun x hx => by
  obtain ⟨j, hj⟩ := List.getElem?_of_mem hx
  have e : (facts T)[T.length + j]? = some (.free x) := by
    unfold facts
    rw [List.getElem?_append_right (by rw [List.length_map]; omega), List.length_map, Nat.add_sub_cancel_left, List.getElem?_map, hj]
    rfl
  exact He.free_ok X G (c.fact _ e)
theorem hdef_of {K : Fg} {T : List Df} {sts : List Stmt} (ck : ckT T sts = true) (c : He.SaysD (facts T) (sts.map mkD) K) : ∃ fd : Nat → FuncData, ∀ (i : Nat) (d : Df), T[i]? = some d → ∃ st, sts[i]? = some st ∧ FunD K d.name d.name (defArgs st) (defBody st) (defScope st) [] [] (faOf T K i) (fd i) ∧ ckF T d st = true := by
  have Fi : ∀ i : Nat, ∃ fd : FuncData, ∀ d : Df, T[i]? = some d → ∃ st, sts[i]? = some st ∧ FunD K d.name d.name (defArgs st) (defBody st) (defScope st) [] [] (faOf T K i) fd ∧ ckF T d st = true := fun i => by
    rcases hd : T[i]? with _ | d
    · exact ⟨⟨"", "", ⟨[], [], none, [], [], none, []⟩, .stmts [], ⟨.function, [], false, false, []⟩, 0, [], .none, .none, .none, .none, none, .none, .none, 0⟩, fun d h => by cases h⟩
    · obtain ⟨st, hs, e1, e2⟩ := ckT_at ck hd
      have hm : (sts.map mkD)[i]? = some (mkD st) := by rw [List.getElem?_map, hs]; rfl
      obtain ⟨fd, F⟩ := c.def_ i hm
      refine ⟨fd, fun d' h1 => ?_⟩
      have e := opt_inj h1
      subst e
      refine ⟨st, hs, ?_, e2⟩
      have F2 : FunD K (nameOf st) (nameOf st) (defArgs st) (defBody st) (defScope st) [] [] (He.fAd K (nameOf st, none)) fd := F
      rw [faOf_at hd]
      rw [e1] at F2
      exact F2
  exact ⟨fun i => Classical.choose (Fi i), fun i => Classical.choose_spec (Fi i)⟩
theorem rl_ints {K : Fg} {H : Hp} : ∀ l : List Int, RelL K H (l.map V.int) (l.map U.int)
  | [] => RelL.nil
  | i :: l => RelL.cons (Rel.int i) (rl_ints l)
theorem rl_arg {K : Fg} {H : Hp} {a : Addr} {xs : List V} (hO : Only H) (hS : SqL K H a xs) : Rl K H a xs := by
  rcases hS with hS | hS
  · rcases hS with hS | ⟨o, hS⟩
    · rcases hO a with z | ⟨o, xs, z⟩
      · rw [hS] at z; cases z
      · rw [hS] at z; cases z
    · exact .inl ⟨o, hS⟩
  · exact .inr hS
theorem law_ok {P : Program} {wd : World} {K : Fg} {h : Heap} {mg : Str → Option Value} {f : Addr} {T : List Df} {sts : List Stmt} {n : Nat} {k : Nat} {dl : Df} (ck : ckT T sts = true) (hb : ∀ (i : Nat) (d : Df) (st : Stmt), T[i]? = some d → sts[i]? = some st → BindP d.name st d.ps)
    (hn : T[n]? = some dl) (hps : dl.ps = ([("script" : Str)] : List Str)) (hname : dl.name = "law") (X : K.In h) (G : h.Ns mainGlobals mg) (hfa : mg ("law" : Str) = some (.ref f)) (c : He.SaysD (facts T) (sts.map mkD) K)
    (hlaw : ∀ ns : List Int, ns.length ≤ 63 → Cs T k n [.rol (ns.map U.int)] (fun _ => none) (fun u _ => u = .bl true)) :
    ∃ (fd : FuncData) (sp : Sp), (∀ (s : Shared) (v : Value), BindsTo s fd ⟨[v], []⟩ [("script", v)]) ∧
      (∀ (H : Hp) (a : Addr) (ns : List Int), ns.length ≤ 63 → Only H → SqL K H a (ns.map V.int) → sp [.ref a] H (fun v _ => v = .bl true) fun _ _ _ => False) ∧
      ∀ base : Heap, K.In base → base.Ns mainGlobals mg → FnOk P wd K mg base CX0 k f fd ["script"] sp := by
  obtain ⟨fd, hfd⟩ := hdef_of ck c
  have F := fun base => fn_ok (P := P) (wd := wd) (base := base) (T := T) (fa := faOf T K) (fd := fd) (K := K) (mg := mg) (fun i d hd => by
      obtain ⟨st, hs, e1, e2⟩ := hfd i d hd
      exact ⟨st, e1, e2, hb i d st hd hs⟩) (fun i d hd => hglo_of X G c hd) (hfree_of X G c) k n dl hn
  have ef : faOf T K n = f := by
    have q := hglo_of X G c hn
    rw [hname, hfa] at q
    exact (vref_inj q).symm
  obtain ⟨st, hs, e1, e2⟩ := hfd n dl hn
  have hbn := hb n dl st hn hs
  refine ⟨fd n, spOf K (Cs T k n), ?_, fun H a ns hl hO hS => ?_, fun base _ _ => ?_⟩
  · intro s v
    have q := e1.bindsA hbn s [v] (by rw [hps]; exact Eq.refl 1)
    rw [hps] at q
    exact q
  · have S0 : Sim K H (fun _ => none) := fun a o e => by exact absurd e (fun z => by cases z)
    have R0 : RelL K H [V.ref a] [U.rol (ns.map U.int)] := RelL.cons (Rel.rol (rl_arg hO hS) (rl_ints ns)) RelL.nil
    have C0 : Cont K H (fun _ => none) (fun u _ => u = U.bl true) (fun v _ => v = V.bl true) := fun v H2 u M2 _ _ (r : Rel K H2 v u) (e : u = .bl true) => by
      subst e
      cases r
      rfl
    exact ⟨[U.rol (ns.map U.int)], fun _ => none, fun u _ => u = U.bl true, S0, R0, hlaw ns hl, C0⟩
  · have q := F base
    rw [ef, hps] at q
    exact q
end Pl

set_option maxHeartbeats 400000
/-! tools to work with what is asked: one step each -/
namespace Pl
open PySem L2
theorem Sub.refl (M : Hm) : Sub M M := fun _ _ h => h
theorem Sub.trans {A B C : Hm} (h : Sub A B) (g : Sub B C) : Sub A C := fun a o e => g a o (h a o e)
theorem sub_um {A B : Hm} {p : Addr} {o : MO} (h : Sub A B) (hp : A p = none) : Sub A (um B p o) := fun a o' e => by
  by_cases q : a = p
  · subst q; rw [hp] at e; cases e
  · rw [um_ne q]; exact h a o' e
theorem sub_um2 {A B : Hm} {p : Addr} {o : MO} (h : Sub A B) : Sub (um A p o) (um B p o) := fun a o' e => by
  by_cases q : a = p
  · subst q; rw [um_same] at e ⊢; exact e
  · rw [um_ne q] at e ⊢; exact h a o' e
theorem um_old {M : Hm} {p a : Addr} {o o' : MO} (hp : M p = some o') (ha : M a = none) : um M a o p = some o' := by
  rw [um_ne]
  · exact hp
  · intro e; subst e; rw [hp] at ha; cases ha
theorem um_oth {M : Hm} {p a : Addr} {o : MO} {r : Option MO} (h : p ≠ a) (hp : M p = r) : um M a o p = r := by
  rw [um_ne h]; exact hp
theorem um_none {M : Hm} {p a : Addr} {o : MO} (h : um M a o p = none) : M p = none := by
  by_cases q : p = a
  · subst q; rw [um_same] at h; cases h
  · rw [um_ne q] at h; exact h
theorem um_noneN {M : Hm} {p a : Addr} {o : MO} (h : um M a o p = none) : p ≠ a := fun q => by
  subst q; rw [um_same] at h; cases h
/-- a new thing, seen from before -/
theorem sub_new {A B : Hm} {p : Addr} {o : MO} (h : Sub A B) (hp : B p = none) : Sub A (um B p o) := fun a o' e => um_old (h a o' e) hp
theorem ne_of_old {M : Hm} {p a : Addr} {o : MO} (hp : M p = some o) (ha : M a = none) : p ≠ a := fun e => by
  subst e; rw [hp] at ha; cases ha
theorem ne_of_old' {M : Hm} {p a : Addr} {o : MO} (hp : M p = some o) (ha : M a = none) : a ≠ p := fun e => by
  subst e; rw [hp] at ha; cases ha
section
variable {C : CE} {σ : SU} {M : Hm} {Q : QU} {T : Bool → Hm → Prop} {L : List U → Hm → Prop} {I : List U → (Hm → Prop) → ((Hm → Prop) → Hm → Prop) → Hm → Prop} {a b c d es : E} {i : Nat}
/-! ifs -/
theorem i_ift {A B : Prop} {k : Bool} (h : k = true) (q : A) : if k = true then A else B := by rw [if_pos h]; exact q
theorem i_iff {A B : Prop} {k : Bool} (h : k = false) (q : B) : if k = true then A else B := by rw [if_neg (by rw [h]; decide)]; exact q
theorem i_ifn {A B : Prop} {k : Bool} (q : if k = true then B else A) : if (!k) = true then A else B := by cases k <;> exact q
theorem i_ifd {A B P : Prop} [Decidable P] (h1 : P → A) (h2 : ¬P → B) : if decide P = true then A else B := by
  by_cases h : P
  · rw [if_pos (decide_eq_true h)]; exact h1 h
  · rw [if_neg (by simpa using h)]; exact h2 h
theorem i_ifdt {A B P : Prop} [Decidable P] (h : P) (q : A) : if decide P = true then A else B := i_ift (decide_eq_true h) q
theorem i_ifdf {A B P : Prop} [Decidable P] (h : ¬P) (q : B) : if decide P = true then A else B := i_iff (decide_eq_false h) q
theorem i_ifb {A B : Prop} {k : Bool} (h1 : k = true → A) (h2 : k = false → B) : if k = true then A else B := by
  cases k
  · exact i_iff rfl (h2 rfl)
  · exact i_ift rfl (h1 rfl)
theorem cmul_l {i j : Int} (h : -18446744073709551616 < i) (h2 : i < 18446744073709551616) : CMul i j := .inl ⟨h, h2⟩
theorem cmul_r {i j : Int} (h : -18446744073709551616 < j) (h2 : j < 18446744073709551616) : CMul i j := .inr ⟨h, h2⟩
theorem i_le {n : Nat} {R : Prop} (h : n ≤ LIM) (q : R) : n ≤ LIM ∧ R := ⟨h, q⟩
theorem i_lt {n : Nat} {R : Prop} (h : n < LIM) (q : R) : n < LIM ∧ R := ⟨h, q⟩
/-- what several ways come to -/
structure Hold (R : Prop) : Prop where
  out : R
theorem rest_of {R G : Prop} (f : Hold R → G) (k : R) : G := f ⟨k⟩
/-! values -/
theorem i_var {u : U} (h : σ[i]? = some (some u)) (q : Q u M) : (w C (.var i)).e σ M Q := ⟨u, h, q⟩
theorem i_int {i : Int} (q : Q (.int i) M) : (w C (.int i)).e σ M Q := q
theorem i_str {i : Str} (q : Q (.str i) M) : (w C (.str i)).e σ M Q := q
theorem i_bl {i : Bool} (q : Q (.bl i) M) : (w C (.bl i)).e σ M Q := q
theorem i_non (q : Q .non M) : (w C .non).e σ M Q := q
theorem i_nil (q : L [] M) : (w C .nil).l σ M L := q
theorem i_cons (q : (w C a).e σ M fun x M1 => (w C b).l σ M1 fun xs M2 => L (x :: xs) M2) : (w C (.cons a b)).l σ M L := q
theorem i_tup (q : (w C es).l σ M fun xs M1 => xs.length ≤ LIM ∧ Q (.tup xs) M1) : (w C (.tup es)).e σ M Q := q
theorem i_lst (q : (w C es).l σ M fun xs M1 => xs.length ≤ LIM ∧ ∀ p, M1 p = none → Q (.ref p) (um M1 p (.lst xs))) : (w C (.lst es)).e σ M Q := q
theorem i_dnew {t : Bool} (q : ∀ p, M p = none → Q (.ref p) (um M p (.dct false t []))) : (w C (.dnew t)).e σ M Q := q
theorem i_bin {op : Bop} (q : (w C a).e σ M fun x M1 => (w C b).e σ M1 fun y M2 => binW op x y M2 Q) : (w C (.bin op a b)).e σ M Q := q
theorem i_neg (q : (w C a).e σ M fun x M1 => ∃ i, x = .int i ∧ Q (.int (-i)) M1) : (w C (.neg a)).e σ M Q := q
theorem i_neg2 {j : Int} (q : Q (.int (-j)) M) : ∃ i, U.int j = .int i ∧ Q (.int (-i)) M := ⟨j, rfl, q⟩
theorem i_cmp {op : Cop} (q : (w C a).e σ M fun x M1 => (w C b).e σ M1 fun y M2 => cmpW op x y M2 fun k M3 => Q (.bl k) M3) : (w C (.cmp op a b)).e σ M Q := q
theorem i_chain {o p : Cop} (q : (w C a).e σ M fun x M1 => (w C b).e σ M1 fun y M2 => cmpW o x y M2 fun k M3 => if k = true then (w C c).e σ M3 fun z M4 => cmpW p y z M4 fun k M5 => Q (.bl k) M5 else Q (.bl false) M3) : (w C (.chain o p a b c)).e σ M Q := q
theorem i_isN (q : (w C a).e σ M fun x M1 => Q (.bl (decide (x = .non))) M1) : (w C (.isN a)).e σ M Q := q
theorem i_notN (q : (w C a).e σ M fun x M1 => Q (.bl (!decide (x = .non))) M1) : (w C (.notN a)).e σ M Q := q
theorem i_isB {b : Bool} (q : (w C a).e σ M fun x M1 => ∃ c, x = .bl c ∧ Q (.bl (decide (c = b))) M1) : (w C (.isB false b a)).e σ M Q := q
theorem i_isNB {b : Bool} (q : (w C a).e σ M fun x M1 => ∃ c, x = .bl c ∧ Q (.bl (!decide (c = b))) M1) : (w C (.isB true b a)).e σ M Q := q
theorem i_ands (q : (w C es).va σ M Q) : (w C (.ands es)).e σ M Q := q
theorem i_ors (q : (w C es).vo σ M Q) : (w C (.ors es)).e σ M Q := q
theorem i_not (q : bW (w C a).e σ M fun b M1 => Q (.bl (!b)) M1) : (w C (.not a)).e σ M Q := q
theorem i_bW {f : WE} (q : f σ M fun x M1 => ∃ b, x = .bl b ∧ T b M1) : bW f σ M T := q
theorem i_exB {b : Bool} {R : Bool → Prop} (q : R b) : ∃ c, U.bl b = .bl c ∧ R c := ⟨b, rfl, q⟩
theorem i_exI {j : Int} {R : Int → Prop} (q : R j) : ∃ c, U.int j = .int c ∧ R c := ⟨j, rfl, q⟩
theorem i_exII {j k : Int} {R : Int → Int → Prop} (q : R j k) : ∃ a b, U.int j = .int a ∧ U.int k = .int b ∧ R a b := ⟨j, k, rfl, rfl, q⟩
theorem i_ite (q : (w C c).t σ M fun k M1 => if k = true then (w C a).e σ M1 Q else (w C b).e σ M1 Q) : (w C (.ite c a b)).e σ M Q := q
theorem i_ix (q : (w C a).e σ M fun x M1 => (w C b).e σ M1 fun y M2 => ixW x y M2 Q) : (w C (.ix a b)).e σ M Q := q
theorem i_slice (q : (w C a).e σ M fun x M1 => partW b (w C b).e σ M1 fun l M2 => partW c (w C c).e σ M2 fun h M3 => sliceW x l h M3 Q) : (w C (.slice a b c)).e σ M Q := q
theorem i_part0 {f : WE} {O : Option Int → Hm → Prop} (q : O none M) : partW .nil f σ M O := q
theorem i_part1 {f : WE} {O : Option Int → Hm → Prop} (h : isNil a = false) (q : f σ M fun x M1 => ∃ i, x = .int i ∧ O (some i) M1) : partW a f σ M O := by
  unfold partW
  rw [if_neg (by rw [h]; decide)]
  exact q
theorem i_call {f : Nat} (q : (w C es).l σ M fun xs M1 => C f xs M1 Q) : (w C (.call f es)).e σ M Q := q
theorem i_blt {f : Bfn} (q : (w C es).l σ M fun xs M1 => bltW f xs M1 Q) : (w C (.blt f es)).e σ M Q := q
theorem i_mth {m : Mfn} (q : (w C a).e σ M fun x M1 => rcvW m x M1 ∧ (w C es).l σ M1 fun xs M2 => mthW m x xs M2 Q) : (w C (.mth m a es)).e σ M Q := q
theorem i_isinst {t : String} (q : (w C a).e σ M fun x M1 => isTyW x t M1 fun k M2 => Q (.bl k) M2) : (w C (.isinst a t)).e σ M Q := q
theorem i_compN {own : List (Str × Nat)} {tg : Tg} (q : (w C a).i σ M fun items g ex M1 => compL (fun x k M => tgW tg x (wipU σ tg.slots) fun σ2 => (w C c).e σ2 M fun y M3 => k (some y) M3) g (fun acc M => ex (fun M => ∀ p, M p = none → Q (.ref p) (um M p (.lst acc))) M) items [] M1) : (w C (.comp own tg a .nil c)).e σ M Q := by
  show compW _ _ _ _ _ _ _
  unfold compW
  simp only [isNil, if_true]
  exact q
theorem i_compC {own : List (Str × Nat)} {tg : Tg} (h : isNil b = false) (q : (w C a).i σ M fun items g ex M1 => compL (fun x k M => tgW tg x (wipU σ tg.slots) fun σ2 => (w C b).t σ2 M fun e M2 => if e = true then (w C c).e σ2 M2 fun y M3 => k (some y) M3 else k none M2) g (fun acc M => ex (fun M => ∀ p, M p = none → Q (.ref p) (um M p (.lst acc))) M) items [] M1) : (w C (.comp own tg a b c)).e σ M Q := by
  show compW _ _ _ _ _ _ _
  unfold compW
  simp only [h, Bool.false_eq_true, if_false]
  exact q
/-! tests -/
theorem t_var {u : U} (h : σ[i]? = some (some u)) (q : truW u M T) : (w C (.var i)).t σ M T := ⟨u, h, q⟩
theorem t_bl {i : Bool} (q : T i M) : (w C (.bl i)).t σ M T := q
theorem t_bin {op : Bop} (q : (w C a).e σ M fun x M1 => (w C b).e σ M1 fun y M2 => binW op x y M2 fun z M3 => truW z M3 T) : (w C (.bin op a b)).t σ M T := q
theorem t_ix (q : (w C a).e σ M fun x M1 => (w C b).e σ M1 fun y M2 => ixW x y M2 fun z M3 => truW z M3 T) : (w C (.ix a b)).t σ M T := q
theorem t_call {f : Nat} (q : (w C es).l σ M fun xs M1 => C f xs M1 fun z M2 => truW z M2 T) : (w C (.call f es)).t σ M T := q
theorem t_blt {f : Bfn} (q : (w C es).l σ M fun xs M1 => bltW f xs M1 fun z M2 => truW z M2 T) : (w C (.blt f es)).t σ M T := q
theorem t_cmp {op : Cop} (q : (w C a).e σ M fun x M1 => (w C b).e σ M1 fun y M2 => cmpW op x y M2 T) : (w C (.cmp op a b)).t σ M T := q
theorem t_chain {o p : Cop} (q : (w C a).e σ M fun x M1 => (w C b).e σ M1 fun y M2 => cmpW o x y M2 fun k M3 => if k = true then (w C c).e σ M3 fun z M4 => cmpW p y z M4 T else T false M3) : (w C (.chain o p a b c)).t σ M T := q
theorem t_isN (q : (w C a).e σ M fun x M1 => T (decide (x = .non)) M1) : (w C (.isN a)).t σ M T := q
theorem t_notN (q : (w C a).e σ M fun x M1 => T (!decide (x = .non)) M1) : (w C (.notN a)).t σ M T := q
theorem t_isB {b : Bool} (q : (w C a).e σ M fun x M1 => ∃ c, x = .bl c ∧ T (decide (c = b)) M1) : (w C (.isB false b a)).t σ M T := q
theorem t_isNB {b : Bool} (q : (w C a).e σ M fun x M1 => ∃ c, x = .bl c ∧ T (!decide (c = b)) M1) : (w C (.isB true b a)).t σ M T := q
theorem t_ands (q : (w C es).ta σ M T) : (w C (.ands es)).t σ M T := q
theorem t_ors (q : (w C es).to σ M T) : (w C (.ors es)).t σ M T := q
theorem t_not (q : (w C a).t σ M fun b M1 => T (!b) M1) : (w C (.not a)).t σ M T := q
theorem t_isinst {t : String} (q : (w C a).e σ M fun x M1 => isTyW x t M1 T) : (w C (.isinst a t)).t σ M T := q
theorem ta_1 (q : (w C a).t σ M T) : (w C (.cons a .nil)).ta σ M T := q
theorem ta_2 (q : (w C a).t σ M fun c M1 => if c = true then (w C (.cons b d)).ta σ M1 T else T false M1) : (w C (.cons a (.cons b d))).ta σ M T := q
theorem to_1 (q : (w C a).t σ M T) : (w C (.cons a .nil)).to σ M T := q
theorem to_2 (q : (w C a).t σ M fun c M1 => if c = true then T true M1 else (w C (.cons b d)).to σ M1 T) : (w C (.cons a (.cons b d))).to σ M T := q
theorem va_1 (q : (w C a).e σ M Q) : (w C (.cons a .nil)).va σ M Q := q
theorem va_2 (q : (w C a).e σ M fun x M1 => ∃ k, x = .bl k ∧ if k = true then (w C (.cons b d)).va σ M1 Q else Q (.bl false) M1) : (w C (.cons a (.cons b d))).va σ M Q := q
theorem vo_1 (q : (w C a).e σ M Q) : (w C (.cons a .nil)).vo σ M Q := q
theorem vo_2 (q : (w C a).e σ M fun x M1 => ∃ k, x = .bl k ∧ if k = true then Q (.bl true) M1 else (w C (.cons b d)).vo σ M1 Q) : (w C (.cons a (.cons b d))).vo σ M Q := q
/-! operations -/
theorem o_add {i j : Int} (q : Q (.int (i + j)) M) : binW .add (.int i) (.int j) M Q := q
theorem o_sub {i j : Int} (q : Q (.int (i - j)) M) : binW .sub (.int i) (.int j) M Q := q
theorem o_mul {i j : Int} (h : CMul i j) (q : Q (.int (i * j)) M) : binW .mul (.int i) (.int j) M Q := ⟨h, q⟩
theorem o_fdiv {i j : Int} (h : CDiv i j) (q : Q (.int (i / j)) M) : binW .fdiv (.int i) (.int j) M Q := ⟨h, q⟩
theorem o_mod {i j : Int} (h : 0 < j) (q : Q (.int (i % j)) M) : binW .mod (.int i) (.int j) M Q := ⟨h, q⟩
theorem o_pow {i j : Int} (h : CPow i j) (q : Q (.int (i ^ j.toNat)) M) : binW .pow (.int i) (.int j) M Q := ⟨h, q⟩
theorem o_shl {i j : Int} (h : CPow i j) (q : Q (.int (i * 2 ^ j.toNat)) M) : binW .shl (.int i) (.int j) M Q := ⟨h, q⟩
theorem o_addS {x y : Str} (h : x.length + y.length ≤ LIM) (q : Q (.str (x ++ y)) M) : binW .add (.str x) (.str y) M Q := ⟨h, q⟩
theorem o_addT {x y : List U} (h : x.length + y.length ≤ LIM) (q : Q (.tup (x ++ y)) M) : binW .add (.tup x) (.tup y) M Q := ⟨h, q⟩
theorem o_addL {p r : Addr} {us ws : List U} (hp : M p = some (.lst us)) (hr : M r = some (.lst ws)) (h : us.length + ws.length ≤ LIM) (q : ∀ a, M a = none → Q (.ref a) (um M a (.lst (us ++ ws)))) : binW .add (.ref p) (.ref r) M Q := ⟨us, ws, hp, hr, h, q⟩
theorem c_eq {x y : U} (q : eqW x y M T) : cmpW .eq x y M T := q
theorem c_ne {x y : U} (q : eqW x y M fun b M => T (!b) M) : cmpW .ne x y M T := q
theorem c_lt {i j : Int} (q : T (decide (i < j)) M) : cmpW .lt (.int i) (.int j) M T := q
theorem c_le {i j : Int} (q : T (decide (i ≤ j)) M) : cmpW .le (.int i) (.int j) M T := q
theorem c_gt {i j : Int} (q : T (decide (j < i)) M) : cmpW .gt (.int i) (.int j) M T := q
theorem c_ge {i j : Int} (q : T (decide (j ≤ i)) M) : cmpW .ge (.int i) (.int j) M T := q
theorem c_in {x y : U} (q : inW false x y M T) : cmpW .isin x y M T := q
theorem c_nin {x y : U} (q : inW true x y M T) : cmpW .notin x y M T := q
theorem eq_bl {a b : Bool} (q : T (decide (a = b)) M) : eqW (.bl a) (.bl b) M T := by
  have e : (a == b) = decide (a = b) := by cases a <;> cases b <;> rfl
  show T (a == b) M
  rw [e]; exact q
theorem eq_int {a b : Int} (q : T (decide (a = b)) M) : eqW (.int a) (.int b) M T := q
theorem eq_str {a b : Str} (q : T (decide (a = b)) M) : eqW (.str a) (.str b) M T := q
theorem eq_tup {a b : List U} (ha : okU (.tup a) = true) (hb : okU (.tup b) = true) (q : T (decide (U.tup a = U.tup b)) M) : eqW (.tup a) (.tup b) M T := ⟨ha, hb, q⟩
theorem eq_lst {p r : Addr} {us ws : List U} (hp : M p = some (.lst us)) (hr : M r = some (.lst ws)) (h1 : okL us = true) (h2 : okL ws = true) (q : T (decide (us = ws)) M) : eqW (.ref p) (.ref r) M T := ⟨us, ws, hp, hr, h1, h2, q⟩
theorem in_lst {x : U} {p : Addr} {us : List U} (hp : M p = some (.lst us)) (h1 : okU x = true) (h2 : okL us = true) (q : T (decide (x ∈ us)) M) : inW false x (.ref p) M T := .inl ⟨us, hp, h1, h2, q⟩
theorem nin_lst {x : U} {p : Addr} {us : List U} (hp : M p = some (.lst us)) (h1 : okU x = true) (h2 : okL us = true) (q : T (!decide (x ∈ us)) M) : inW true x (.ref p) M T := .inl ⟨us, hp, h1, h2, q⟩
theorem in_tup {x : U} {us : List U} (h1 : okU x = true) (h2 : okL us = true) (h3 : us.all isKey = true) (h4 : isKey x = true) (q : T (decide (x ∈ us)) M) : inW false x (.tup us) M T := ⟨h1, h2, ⟨h3, h4⟩, q⟩
theorem nin_tup {x : U} {us : List U} (h1 : okU x = true) (h2 : okL us = true) (h3 : us.all isKey = true) (h4 : isKey x = true) (q : T (!decide (x ∈ us)) M) : inW true x (.tup us) M T := ⟨h1, h2, ⟨h3, h4⟩, q⟩
theorem in_dct {z t : Bool} {x : U} {p : Addr} {ks : List (U × U)} (hp : M p = some (.dct z t ks)) (h1 : keyFor t x = true) (q : T (dfind ks x).isSome M) : inW false x (.ref p) M T := .inr ⟨z, t, ks, hp, h1, q⟩
theorem nin_dct {z t : Bool} {x : U} {p : Addr} {ks : List (U × U)} (hp : M p = some (.dct z t ks)) (h1 : keyFor t x = true) (q : T (!(dfind ks x).isSome) M) : inW true x (.ref p) M T := .inr ⟨z, t, ks, hp, h1, q⟩
theorem tr_bl {b : Bool} (q : T b M) : truW (.bl b) M T := q
theorem tr_int {i : Int} (q : T (!decide (i = 0)) M) : truW (.int i) M T := by
  have e : (i != 0) = !decide (i = 0) := rfl
  show T (i != 0) M
  rw [e]; exact q
theorem emp_dec {α : Type} (l : List α) [Decidable (l = [])] : l.isEmpty = decide (l = []) := by cases l <;> simp
theorem tr_tup {l : List U} (q : T (!decide (l = [])) M) : truW (.tup l) M T := by
  show T (!l.isEmpty) M
  rw [emp_dec]; exact q
theorem tr_non (q : T false M) : truW .non M T := q
theorem tr_lst {p : Addr} {us : List U} (hp : M p = some (.lst us)) (q : T (!decide (us = [])) M) : truW (.ref p) M T := .inl ⟨us, hp, by rw [emp_dec]; exact q⟩
theorem tr_dct {p : Addr} {ks : List (U × U)} (hp : M p = some (.dct false false ks)) (q : T (!decide (ks = [])) M) : truW (.ref p) M T := .inr ⟨ks, hp, by rw [emp_dec]; exact q⟩
theorem x_tup {l : List U} {j : Int} {v : U} (h : atI l j = some v) (q : Q v M) : ixW (.tup l) (.int j) M Q := ⟨j, v, rfl, h, q⟩
theorem x_lst {p : Addr} {us : List U} {j : Int} {v : U} (hp : M p = some (.lst us)) (h : atI us j = some v) (q : Q v M) : ixW (.ref p) (.int j) M Q := .inl ⟨us, j, v, hp, rfl, h, q⟩
theorem x_dct {p : Addr} {z t : Bool} {ks : List (U × U)} {x v : U} (hp : M p = some (.dct z t ks)) (hk : keyFor t x = true) (h : dfind ks x = some v) (q : Q v M) : ixW (.ref p) x M Q := .inr ⟨z, t, ks, v, hp, hk, h, q⟩
theorem g_lst {p : Addr} {us : List U} {j : Int} {v : U} (hp : M p = some (.lst us)) (h : atI us j = some v) (q : Q v M) : getW (.ref p) (.int j) M Q := .inl ⟨us, j, v, hp, rfl, h, q⟩
theorem g_dct {p : Addr} {z t : Bool} {ks : List (U × U)} {x v : U} (hp : M p = some (.dct z t ks)) (hk : keyFor t x = true) (h : dfind ks x = some v) (q : Q v M) : getW (.ref p) x M Q := .inr ⟨z, t, ks, v, hp, hk, h, q⟩
theorem sl_tup {l : List U} {x y : Option Int} (q : Q (.tup (cutU l x y)) M) : sliceW (.tup l) x y M Q := q
theorem sl_lst {p : Addr} {us : List U} {x y : Option Int} (hp : M p = some (.lst us)) (q : ∀ a, M a = none → Q (.ref a) (um M a (.lst (cutU us x y)))) : sliceW (.ref p) x y M Q := ⟨us, hp, q⟩
theorem st_lst {p : Addr} {us : List U} {j : Int} {k : Nat} {v : U} {R : Hm → Prop} (hp : M p = some (.lst us)) (h : ixN us.length j = some k) (q : R (um M p (.lst (us.set k v)))) : setW (.ref p) (.int j) v M R := .inl ⟨us, j, k, hp, rfl, h, q⟩
theorem st_dct {p : Addr} {t : Bool} {ks : List (U × U)} {x v : U} {R : Hm → Prop} (hp : M p = some (.dct false t ks)) (hk : keyFor t x = true) (hl : ks.length < LIM) (q : R (um M p (.dct false t (dput ks x v)))) : setW (.ref p) x v M R := .inr ⟨t, ks, hp, hk, hl, q⟩
theorem f_lenT {l : List U} (q : Q (.int l.length) M) : bltW .len [.tup l] M Q := q
theorem f_lenL {p : Addr} {us : List U} (hp : M p = some (.lst us)) (q : Q (.int us.length) M) : bltW .len [.ref p] M Q := .inl ⟨us, hp, q⟩
theorem f_lenD {p : Addr} {ks : List (U × U)} (hp : M p = some (.dct false false ks)) (q : Q (.int ks.length) M) : bltW .len [.ref p] M Q := .inr ⟨ks, hp, q⟩
theorem f_listT {l : List U} (q : ∀ a, M a = none → Q (.ref a) (um M a (.lst l))) : bltW .list [.tup l] M Q := q
theorem f_listL {p : Addr} {us : List U} (hp : M p = some (.lst us)) (q : ∀ a, M a = none → Q (.ref a) (um M a (.lst us))) : bltW .list [.ref p] M Q := .inl ⟨us, hp, q⟩
theorem f_listD {p : Addr} {ks : List (U × U)} (hp : M p = some (.dct false false ks)) (q : ∀ a, M a = none → Q (.ref a) (um M a (.lst (ks.map (·.1))))) : bltW .list [.ref p] M Q := .inr ⟨ks, hp, q⟩
theorem f_sortL {p : Addr} {us : List U} (hp : M p = some (.lst us)) (ok : sortOk us) (q : ∀ a, M a = none → Q (.ref a) (um M a (.lst (sortU us)))) : bltW .sorted [.ref p] M Q := .inl ⟨us, hp, ok, q⟩
theorem f_sortD {p : Addr} {t : Bool} {ks : List (U × U)} (hp : M p = some (.dct false t ks)) (ok : sortOk (ks.map (·.1))) (q : ∀ a, M a = none → Q (.ref a) (um M a (.lst (sortU (ks.map (·.1)))))) : bltW .sorted [.ref p] M Q := .inr ⟨t, ks, hp, ok, q⟩
theorem f_tupT {l : List U} (q : Q (.tup l) M) : bltW .tuple [.tup l] M Q := q
theorem f_tupL {p : Addr} {us : List U} (hp : M p = some (.lst us)) (q : Q (.tup us) M) : bltW .tuple [.ref p] M Q := ⟨us, hp, q⟩
theorem f_int {i : Int} (q : Q (.int i) M) : bltW .int [.int i] M Q := q
theorem f_intB {b : Bool} (q : Q (.int (if b then 1 else 0)) M) : bltW .int [.bl b] M Q := q
theorem f_abs {i : Int} (q : Q (.int (if i < 0 then -i else i)) M) : bltW .abs [.int i] M Q := q
theorem f_max {i j : Int} (q : Q (.int (if j > i then j else i)) M) : bltW .max [.int i, .int j] M Q := q
theorem f_min {i j : Int} (q : Q (.int (if j < i then j else i)) M) : bltW .min [.int i, .int j] M Q := q
theorem m_app {p : Addr} {us : List U} {x : U} (hp : M p = some (.lst us)) (hl : us.length < LIM) (q : Q .non (um M p (.lst (us ++ [x])))) : mthW .append (.ref p) [x] M Q := ⟨us, hp, hl, q⟩
theorem m_ext {p r : Addr} {us ws : List U} (hp : M p = some (.lst us)) (hr : M r = some (.lst ws)) (hl : us.length + ws.length ≤ LIM) (q : Q .non (um M p (.lst (us ++ ws)))) : mthW .extend (.ref p) [.ref r] M Q := ⟨us, ws, hp, hr, hl, q⟩
theorem m_pop {p : Addr} {us : List U} {x : U} (hp : M p = some (.lst us)) (hl : us[us.length - 1]? = some x) (q : Q x (um M p (.lst us.dropLast))) : mthW .pop (.ref p) [] M Q := ⟨us, x, hp, hl, q⟩
theorem m_popAt {p : Addr} {us : List U} {i : Int} {k : Nat} {x : U} (hp : M p = some (.lst us)) (hl : us.length ≤ LIM) (hi : ixN us.length i = some k) (hk : us[k]? = some x) (q : Q x (um M p (.lst (us.eraseIdx k)))) : mthW .popAt (.ref p) [.int i] M Q := ⟨us, k, x, hp, hl, hi, hk, q⟩
theorem r_app {p : Addr} {us : List U} (hp : M p = some (.lst us)) : rcvW .append (.ref p) M := ⟨p, us, rfl, hp⟩
theorem r_ext {p : Addr} {us : List U} (hp : M p = some (.lst us)) : rcvW .extend (.ref p) M := ⟨p, us, rfl, hp⟩
theorem r_pop {p : Addr} {us : List U} (hp : M p = some (.lst us)) : rcvW .pop (.ref p) M := ⟨p, us, rfl, hp⟩
theorem r_popAt {p : Addr} {us : List U} (hp : M p = some (.lst us)) : rcvW .popAt (.ref p) M := ⟨p, us, rfl, hp⟩
theorem i_rcvA {R : Prop} {p : Addr} {us : List U} (hp : M p = some (.lst us)) (q : R) : rcvW .append (.ref p) M ∧ R := ⟨r_app hp, q⟩
theorem i_rcvE {R : Prop} {p : Addr} {us : List U} (hp : M p = some (.lst us)) (q : R) : rcvW .extend (.ref p) M ∧ R := ⟨r_ext hp, q⟩
theorem i_rcvP {R : Prop} {p : Addr} {us : List U} (hp : M p = some (.lst us)) (q : R) : rcvW .pop (.ref p) M ∧ R := ⟨r_pop hp, q⟩
theorem i_rcvQ {R : Prop} {p : Addr} {us : List U} (hp : M p = some (.lst us)) (q : R) : rcvW .popAt (.ref p) M ∧ R := ⟨r_popAt hp, q⟩
theorem y_non {t : String} (q : T (t == "NoneType") M) : isTyW .non t M T := q
theorem y_bl {t : String} {b : Bool} (q : T (t == "bool" || t == "int") M) : isTyW (.bl b) t M T := q
theorem y_int {t : String} {i : Int} (q : T (t == "int") M) : isTyW (.int i) t M T := q
theorem y_str {t : String} {x : Str} (q : T (t == "str") M) : isTyW (.str x) t M T := q
theorem y_tup {t : String} {l : List U} (q : T (t == "tuple") M) : isTyW (.tup l) t M T := q
theorem y_lst {t : String} {p : Addr} {us : List U} (hp : M p = some (.lst us)) (q : T (t == "list") M) : isTyW (.ref p) t M T := ⟨us, hp, q⟩
/-! what is walked -/
theorem w_seq (q : (w C a).e σ M fun x M1 => seqI x M1 I) : (w C (.iSeq a)).i σ M I := q
theorem w_rng (q : (w C a).e σ M fun x M1 => ∃ n, x = .int n ∧ n ≤ LIM ∧ -LIM ≤ n ∧ I (rngU 0 n) (fun _ => True) (fun P => P) M1) : (w C (.iRange a)).i σ M I := q
theorem w_rng2 (q : (w C a).e σ M fun x M1 => (w C b).e σ M1 fun y M2 => ∃ m n, x = .int m ∧ y = .int n ∧ -LIM ≤ m ∧ m ≤ LIM ∧ n ≤ LIM ∧ -LIM ≤ n ∧ I (rngU m n) (fun _ => True) (fun P => P) M2) : (w C (.iRange2 a b)).i σ M I := q
theorem w_enum (q : (w C a).e σ M fun x M1 => seqI x M1 fun us g ex M2 => I (enumU us) g ex M2) : (w C (.iEnum a)).i σ M I := q
theorem s_tup {l : List U} (q : I l (fun _ => True) (fun P => P) M) : seqI (.tup l) M I := q
theorem s_rol {l : List U} (q : I l (fun _ => True) (fun P => P) M) : seqI (.rol l) M I := q
theorem s_lst {p : Addr} {us : List U} (hp : M p = some (.lst us)) (q : I us (fun M' => M' p = some (.lst us)) (fun P => P) M) : seqI (.ref p) M I := ⟨us, hp, q⟩
theorem w_keys {d : Addr} {t : Bool} {ks : List (U × U)} (h : σ[i]? = some (some (.ref d))) (hd : M d = some (.dct false t ks)) (q : I (ks.map (·.1)) (fun M' => M' d = some (.dct true t ks)) (fun P M' => M' d = some (.dct true t ks) ∧ P (um M' d (.dct false t ks))) (um M d (.dct true t ks))) : (w C (.iKeys (.var i))).i σ M I := ⟨i, d, t, ks, rfl, h, hd, q⟩
/-! statements -/
variable {nx : SU → Hm → Prop} {rt : QU} {bk ct : SU → Hm → Prop} {x y z : S}
theorem z_skip (q : nx σ M) : wS C .skip ⟨nx, rt, bk, ct⟩ σ M := q
theorem z_seq (q : wS C x ⟨wS C y ⟨nx, rt, bk, ct⟩, rt, bk, ct⟩ σ M) : wS C (.seq x y) ⟨nx, rt, bk, ct⟩ σ M := q
theorem z_asg (q : (w C a).e σ M fun x M1 => nx (σ.set i (some x)) M1) : wS C (.asg i a) ⟨nx, rt, bk, ct⟩ σ M := q
theorem z_asgT {is : List Nat} (q : (w C a).e σ M fun x M1 => ∃ l σ', x = .tup l ∧ setAll is l σ = some σ' ∧ nx σ' M1) : wS C (.asgT is a) ⟨nx, rt, bk, ct⟩ σ M := q
theorem z_asgT2 {is : List Nat} {l : List U} {σ' : SU} (h : setAll is l σ = some σ') (q : nx σ' M) : ∃ l' σ', U.tup l = .tup l' ∧ setAll is l' σ = some σ' ∧ nx σ' M := ⟨l, σ', rfl, h, q⟩
theorem z_setIx (q : (w C c).e σ M fun v M1 => (w C a).e σ M1 fun x M2 => (w C b).e σ M2 fun y M3 => setW x y v M3 (nx σ)) : wS C (.setIx a b c) ⟨nx, rt, bk, ct⟩ σ M := q
theorem z_augV {op : Bop} {x : Int} (h : σ[i]? = some (some (.int x))) (q : (w C a).e σ M fun y M1 => ∃ b, y = .int b ∧ binW op (.int x) (.int b) M1 fun z M2 => nx (σ.set i (some z)) M2) : wS C (.augV i op a) ⟨nx, rt, bk, ct⟩ σ M := ⟨_, h, by
  have e : ∀ y M1, (∃ b, y = .int b ∧ binW op (.int x) (.int b) M1 fun z M2 => nx (σ.set i (some z)) M2) = (∃ a b, U.int x = .int a ∧ y = .int b ∧ binW op (.int x) y M1 fun z M2 => nx (σ.set i (some z)) M2) := fun y M1 => propext ⟨fun ⟨b, e, q⟩ => ⟨x, b, rfl, e, by rw [e]; exact q⟩, fun ⟨a, b, _, e, q⟩ => ⟨b, e, by rw [e] at q; exact q⟩⟩
  simp only [e] at q
  exact q⟩
theorem z_augIx {op : Bop} (q : (w C a).e σ M fun x M1 => (w C b).e σ M1 fun y M2 => getW x y M2 fun v M3 => (w C c).e σ M3 fun z M4 => ∃ a b, v = .int a ∧ z = .int b ∧ binW op v z M4 fun r M5 => setW x y r M5 (nx σ)) : wS C (.augIx a b op c) ⟨nx, rt, bk, ct⟩ σ M := q
theorem z_ifs (q : (w C c).t σ M fun k M1 => if k = true then wS C x ⟨nx, rt, bk, ct⟩ σ M1 else wS C y ⟨nx, rt, bk, ct⟩ σ M1) : wS C (.ifs c x y) ⟨nx, rt, bk, ct⟩ σ M := q
theorem z_for {tg : Tg} (q : (w C a).i σ M fun items g ex M1 => forL (fun u k σ M => tgW tg u σ fun σ2 => wS C x ⟨k, fun u M => ex (rt u) M, fun σ M => ex (nx σ) M, k⟩ σ2 M) g (fun σ M => ex (nx σ) M) items σ M1) : wS C (.for_ tg a x) ⟨nx, rt, bk, ct⟩ σ M := q
theorem z_ret (q : (w C a).e σ M rt) : wS C (.ret a) ⟨nx, rt, bk, ct⟩ σ M := q
theorem z_retN (q : rt .non M) : wS C .retN ⟨nx, rt, bk, ct⟩ σ M := q
theorem z_brk (q : bk σ M) : wS C .brk ⟨nx, rt, bk, ct⟩ σ M := q
theorem z_cnt (q : ct σ M) : wS C .cnt ⟨nx, rt, bk, ct⟩ σ M := q
theorem z_expr (q : (w C a).e σ M fun _ M1 => nx σ M1) : wS C (.expr a) ⟨nx, rt, bk, ct⟩ σ M := q
theorem tg_one {u : U} {R : SU → Prop} (q : R (σ.set i (some u))) : tgW (.one i) u σ R := q
theorem tg_many {is : List Nat} {l : List U} {σ' : SU} {R : SU → Prop} (h : setAll is l σ = some σ') (q : R σ') : tgW (.many is) (.tup l) σ R := ⟨l, σ', rfl, h, q⟩
end
/-- a loop by what holds between: what is done, what is left -/
theorem forL_by {α : Type} {enc : α → U} {step : U → (SU → Hm → Prop) → SU → Hm → Prop} {g : Hm → Prop} {fin : SU → Hm → Prop} (I : List α → List α → SU → Hm → Prop) (l : List α) {σ : SU} {M : Hm} (h0 : I [] l σ M)
    (h1 : ∀ don x rest σ M (k : SU → Hm → Prop), don ++ x :: rest = l → I don (x :: rest) σ M → (∀ σ' M', g M' → I (don ++ [x]) rest σ' M' → k σ' M') → step (enc x) k σ M)
    (h2 : ∀ σ M, I l [] σ M → fin σ M) : forL step g fin (l.map enc) σ M := by
  suffices h : ∀ (rest don : List α) σ M, don ++ rest = l → I don rest σ M → forL step g fin (rest.map enc) σ M from h l [] σ M rfl h0
  intro rest
  induction rest with
  | nil =>
    intro don σ M e h
    rw [List.append_nil] at e
    subst e
    exact h2 σ M h
  | cons x rest ih =>
    intro don σ M e h
    exact h1 don x rest σ M _ e h fun σ' M' hg hi => ⟨hg, ih (don ++ [x]) σ' M' (by rw [List.append_assoc]; exact e) hi⟩
/-- a loop by enumerate -/
theorem forL_enum {α : Type} {enc : α → U} {step : U → (SU → Hm → Prop) → SU → Hm → Prop} {g : Hm → Prop} {fin : SU → Hm → Prop} (I : List α → List α → SU → Hm → Prop) (l : List α) {σ : SU} {M : Hm} (h0 : I [] l σ M)
    (h1 : ∀ don x rest σ M (k : SU → Hm → Prop), don ++ x :: rest = l → I don (x :: rest) σ M → (∀ σ' M', g M' → I (don ++ [x]) rest σ' M' → k σ' M') → step (.tup [.int (don.length : Nat), enc x]) k σ M)
    (h2 : ∀ σ M, I l [] σ M → fin σ M) : forL step g fin (enumU (l.map enc)) σ M := by
  suffices h : ∀ (rest don : List α) σ M, don ++ rest = l → I don rest σ M → forL step g fin (((rest.map enc).zipIdx don.length).map fun p => .tup [.int (p.2 : Nat), p.1]) σ M from h l [] σ M rfl h0
  intro rest
  induction rest with
  | nil =>
    intro don σ M e h
    rw [List.append_nil] at e
    subst e
    exact h2 σ M h
  | cons x rest ih =>
    intro don σ M e h
    rw [List.map_cons, List.zipIdx_cons, List.map_cons]
    refine h1 don x rest σ M _ e h fun σ' M' hg hi => ⟨hg, ?_⟩
    have := ih (don ++ [x]) σ' M' (by rw [List.append_assoc]; exact e) hi
    rwa [List.length_append] at this
theorem compL_by {α : Type} {enc : α → U} {step : U → (Option U → Hm → Prop) → Hm → Prop} {g : Hm → Prop} {fin : List U → Hm → Prop} (I : List α → List α → List U → Hm → Prop) (l : List α) {acc : List U} {M : Hm} (h0 : I [] l acc M)
    (h1 : ∀ don x rest acc M (k : Option U → Hm → Prop), don ++ x :: rest = l → I don (x :: rest) acc M → (∀ o M', g M' → (o.isSome = true → acc.length < LIM) → I (don ++ [x]) rest (acc ++ o.toList) M' → k o M') → step (enc x) k M)
    (h2 : ∀ acc M, I l [] acc M → fin acc M) : compL step g fin (l.map enc) acc M := by
  suffices h : ∀ (rest don : List α) acc M, don ++ rest = l → I don rest acc M → compL step g fin (rest.map enc) acc M from h l [] acc M rfl h0
  intro rest
  induction rest with
  | nil =>
    intro don acc M e h
    rw [List.append_nil] at e
    subst e
    exact h2 acc M h
  | cons x rest ih =>
    intro don acc M e h
    exact h1 don x rest acc M _ e h fun o M' hg hl hi => ⟨hg, hl, ih (don ++ [x]) _ M' (by rw [List.append_assoc]; exact e) hi⟩
end Pl

set_option maxHeartbeats 400000
local macro_rules | `(tactic| get_elem_tactic_extensible) => `(tactic| first | assumption | exact Pl.um_same | (refine Pl.um_old ?_ ?_ <;> get_elem_tactic_extensible) | (refine Pl.um_oth (by first | assumption | exact Ne.symm (by assumption)) ?_; get_elem_tactic_extensible) | exact Pl.um_none (by assumption))
local macro_rules | `(tactic| decreasing_trivial_pre_omega) => `(tactic| first | ((with_reducible apply Pl.i_var); exact rfl) | ((with_reducible apply Pl.t_var); exact rfl) | ((with_reducible apply Pl.x_tup); exact rfl) | with_reducible refine Pl.z_seq ?_ | with_reducible refine Pl.z_skip ?_ | with_reducible refine Pl.z_asg ?_ | with_reducible refine Pl.z_ret ?_ | with_reducible refine Pl.z_ifs ?_ | with_reducible refine Pl.i_int ?_ | with_reducible refine Pl.i_str ?_ | with_reducible refine Pl.i_bl ?_ | with_reducible refine Pl.i_non ?_ | with_reducible refine Pl.i_cons ?_ | with_reducible refine Pl.i_nil ?_ | with_reducible refine Pl.i_ix ?_ | with_reducible refine Pl.i_cmp ?_ | with_reducible refine Pl.t_cmp ?_ | with_reducible refine Pl.i_call ?_ | with_reducible refine Pl.i_blt ?_ | with_reducible refine Pl.i_tup ?_ | with_reducible refine Pl.i_bin ?_ | with_reducible refine Pl.o_add ?_ | with_reducible refine Pl.o_sub ?_ | with_reducible refine Pl.c_eq ?_ | with_reducible refine Pl.c_ne ?_ | with_reducible refine Pl.eq_int ?_ | with_reducible refine Pl.eq_str ?_ | with_reducible refine Pl.c_lt ?_ | with_reducible refine Pl.c_le ?_ | with_reducible refine Pl.c_gt ?_ | with_reducible refine Pl.c_ge ?_ | with_reducible refine Pl.to_2 ?_ | with_reducible refine Pl.to_1 ?_ | with_reducible refine Pl.ta_2 ?_ | with_reducible refine Pl.ta_1 ?_ | with_reducible refine Pl.t_ors ?_ | with_reducible refine Pl.t_ands ?_ | with_reducible refine Pl.t_not ?_ | with_reducible refine Pl.t_isN ?_ | with_reducible refine Pl.t_notN ?_ | with_reducible refine Pl.t_isB ?_ | with_reducible refine Pl.t_isNB ?_ | with_reducible refine Pl.t_isinst ?_ | with_reducible refine Pl.t_ix ?_ | with_reducible refine Pl.t_call ?_ | with_reducible refine Pl.t_blt ?_ | with_reducible refine Pl.t_bl ?_ | with_reducible refine Pl.t_bin ?_ | with_reducible refine Pl.t_chain ?_ | with_reducible refine Pl.i_lst ?_ | with_reducible refine Pl.i_dnew ?_ | with_reducible refine Pl.i_neg ?_ | with_reducible refine Pl.i_neg2 ?_ | with_reducible refine Pl.i_chain ?_ | with_reducible refine Pl.i_isN ?_ | with_reducible refine Pl.i_notN ?_ | with_reducible refine Pl.i_isB ?_ | with_reducible refine Pl.i_isNB ?_ | with_reducible refine Pl.i_ands ?_ | with_reducible refine Pl.i_ors ?_ | with_reducible refine Pl.i_not ?_ | with_reducible refine Pl.i_bW ?_ | with_reducible refine Pl.i_exB ?_ | with_reducible refine Pl.i_exI ?_ | with_reducible refine Pl.i_exII ?_ | with_reducible refine Pl.i_ite ?_ | with_reducible refine Pl.i_slice ?_ | with_reducible refine Pl.i_part0 ?_ | with_reducible refine Pl.i_mth ?_ | with_reducible refine Pl.i_isinst ?_ | with_reducible refine Pl.i_compN ?_ | with_reducible refine Pl.va_1 ?_ | with_reducible refine Pl.va_2 ?_ | with_reducible refine Pl.vo_1 ?_ | with_reducible refine Pl.vo_2 ?_ | with_reducible refine Pl.c_in ?_ | with_reducible refine Pl.c_nin ?_ | with_reducible refine Pl.eq_bl ?_ | with_reducible refine Pl.tr_bl ?_ | with_reducible refine Pl.tr_int ?_ | with_reducible refine Pl.tr_tup ?_ | with_reducible refine Pl.tr_non ?_ | with_reducible refine Pl.sl_tup ?_ | with_reducible refine Pl.f_lenT ?_ | with_reducible refine Pl.f_listT ?_ | with_reducible refine Pl.f_tupT ?_ | with_reducible refine Pl.f_int ?_ | with_reducible refine Pl.f_intB ?_ | with_reducible refine Pl.f_abs ?_ | with_reducible refine Pl.f_max ?_ | with_reducible refine Pl.f_min ?_ | with_reducible refine Pl.y_non ?_ | with_reducible refine Pl.y_bl ?_ | with_reducible refine Pl.y_int ?_ | with_reducible refine Pl.y_str ?_ | with_reducible refine Pl.y_tup ?_ | with_reducible refine Pl.w_seq ?_ | with_reducible refine Pl.w_enum ?_ | with_reducible refine Pl.w_rng ?_ | with_reducible refine Pl.w_rng2 ?_ | with_reducible refine Pl.s_tup ?_ | with_reducible refine Pl.s_rol ?_ | with_reducible refine Pl.z_asgT ?_ | with_reducible refine Pl.z_setIx ?_ | with_reducible refine Pl.z_augIx ?_ | with_reducible refine Pl.z_for ?_ | with_reducible refine Pl.z_retN ?_ | with_reducible refine Pl.z_brk ?_ | with_reducible refine Pl.z_cnt ?_ | with_reducible refine Pl.z_expr ?_ | with_reducible refine Pl.tg_one ?_ | with_reducible refine Pl.i_ifn ?_ | ((with_reducible apply Pl.i_compC); exact rfl) | ((with_reducible apply Pl.i_part1); exact rfl) | ((with_reducible apply Pl.z_asgT2); exact rfl) | ((with_reducible apply Pl.z_augV); exact rfl) | ((with_reducible apply Pl.tg_many); exact rfl) | ((with_reducible apply Pl.tr_lst); get_elem_tactic_extensible) | ((with_reducible apply Pl.tr_dct); get_elem_tactic_extensible) | ((with_reducible apply Pl.sl_lst); get_elem_tactic_extensible) | ((with_reducible apply Pl.f_lenL); get_elem_tactic_extensible) | ((with_reducible apply Pl.f_lenD); get_elem_tactic_extensible) | ((with_reducible apply Pl.f_listL); get_elem_tactic_extensible) | ((with_reducible apply Pl.f_listD); get_elem_tactic_extensible) | ((with_reducible apply Pl.f_tupL); get_elem_tactic_extensible) | ((with_reducible apply Pl.y_lst); get_elem_tactic_extensible) | ((with_reducible apply Pl.s_lst); get_elem_tactic_extensible) | ((with_reducible apply Pl.i_rcvA); get_elem_tactic_extensible) | ((with_reducible apply Pl.i_rcvE); get_elem_tactic_extensible) | ((with_reducible apply Pl.i_rcvP); get_elem_tactic_extensible) | ((with_reducible apply Pl.i_rcvQ); get_elem_tactic_extensible) | ((with_reducible apply Pl.x_lst); get_elem_tactic_extensible; exact rfl) | ((with_reducible apply Pl.g_lst); get_elem_tactic_extensible; exact rfl) | ((with_reducible apply Pl.st_lst); get_elem_tactic_extensible; exact rfl) | ((with_reducible apply Pl.i_ift); (first | exact rfl | assumption | decide +kernel)) | ((with_reducible apply Pl.i_iff); (first | exact rfl | assumption | decide +kernel)) | ((with_reducible apply Pl.o_mod); (first | omega | decide)) | ((with_reducible apply Pl.o_fdiv); exact ⟨by first | omega | decide, by first | omega | decide⟩) | ((with_reducible apply Pl.o_mul); first | exact Pl.cmul_l (by omega) (by omega) | exact Pl.cmul_r (by omega) (by omega)) | ((with_reducible apply Pl.o_pow); exact ⟨by decide, by decide, by decide⟩) | ((with_reducible apply Pl.o_shl); exact ⟨by decide, by decide, by decide⟩) | ((with_reducible apply Pl.i_ifdt); (first | assumption | exact rfl | decide +kernel)) | ((with_reducible apply Pl.i_ifdf); (first | assumption | decide +kernel)) | ((with_reducible refine Pl.i_le ?_ ?_); exact Nat.le_of_ble_eq_true rfl) | ((with_reducible refine Pl.i_lt ?_ ?_); exact Nat.le_of_ble_eq_true rfl))
/-! the draws -/
namespace Pl
open PySem L2
/-- a row of draws: where it lies, where its script lies -/
def Dr (M : Hm) (p : Addr × Addr) : Prop := ∃ (cells : List Int) (a b c : Int), p.2 ≠ p.1 ∧ M p.1 = some (.lst [.ref p.2, .int a, .int b, .int c]) ∧ M p.2 = some (.lst (cells.map U.int)) ∧ 0 ≤ a
def bDraw : S := (.seq (.ifs (.cmp .gt (.ix (.var 0) (.int 2)) (.int 0)) (.seq (.asg 2 (.ix (.var 0) (.int 2))) (.seq (.setIx (.var 0) (.int 2) (.bin .fdiv (.var 2) (.var 1))) (.seq (.ret (.bin .mod (.blt .int (.cons (.var 2) .nil)) (.var 1))) .skip))) .skip) (.seq (.asg 3 (.int 0)) (.seq (.ifs (.cmp .lt (.ix (.var 0) (.int 1)) (.blt .len (.cons (.ix (.var 0) (.int 0)) .nil))) (.seq (.asg 4 (.ix (.ix (.var 0) (.int 0)) (.ix (.var 0) (.int 1)))) (.seq (.asg 3 (.bin .add (.bin .mul (.int 2) (.blt .abs (.cons (.var 4) .nil))) (.blt .int (.cons (.cmp .lt (.var 4) (.int 0)) .nil)))) .skip)) .skip) (.seq (.augIx (.var 0) (.int 1) .add (.int 1)) (.seq (.ifs (.cmp .ge (.var 3) (.bin .mul (.int 2) (.bin .pow (.int 10) (.int 18)))) (.seq (.asg 2 (.bin .mod (.blt .int (.cons (.bin .fdiv (.var 3) (.int 2)) .nil)) (.bin .shl (.int 1) (.int 6000)))) (.seq (.setIx (.var 0) (.int 2) (.bin .fdiv (.var 2) (.var 1))) (.seq (.ret (.bin .mod (.blt .int (.cons (.var 2) .nil)) (.var 1))) .skip))) .skip) (.seq (.setIx (.var 0) (.int 3) (.bin .mod (.blt .int (.cons (.bin .add (.bin .add (.bin .add (.bin .mul (.ix (.var 0) (.int 3)) (.int 48271)) (.bin .mul (.bin .mod (.blt .int (.cons (.var 3) .nil)) (.int 2147483629)) (.int 16807))) (.bin .mul (.ix (.var 0) (.int 1)) (.int 69621))) (.int 11)) .nil)) (.int 2147483647))) (.seq (.ret (.bin .mod (.blt .int (.cons (.bin .fdiv (.ix (.var 0) (.int 3)) (.int 16)) .nil)) (.var 1))) .skip)))))))
theorem atI_map {l : List Int} {i : Int} (h0 : 0 ≤ i) (h : i < l.length) : ∃ x, atI (l.map U.int) i = some (.int x) := by
  unfold atI ixN
  rw [if_pos h0]
  have hn : i.toNat < l.length := by omega
  refine ⟨l[i.toNat], ?_⟩
  rw [if_pos (by rw [List.length_map]; exact h)]
  simp [hn]
theorem draw_ok {C : CE} {nx bk ct : SU → Hm → Prop} {rt : QU} {M : Hm} {p : Addr × Addr} {many : Int} (h : Dr M p) (h1 : 0 < many) (h2 : many < 1073741824)
    (hq : ∀ r M', 0 ≤ r → r < many → Dr M' p → (∀ a, a ≠ p.1 → M' a = M a) → rt (.int r) M') : wS C bDraw ⟨nx, rt, bk, ct⟩ (startU 5 [.ref p.1, .int many]) M := by
  obtain ⟨cells, a, b, c, hn, hp, hc, ha⟩ := h
  have many_ne : many ≠ 0 := by omega
  have fin : ∀ (a b c : Int) (x : Int), 0 ≤ a → rt (.int (x % many)) (um M p.1 (.lst [.ref p.2, .int a, .int b, .int c])) := fun a b c x ha =>
    hq _ _ (Int.emod_nonneg _ many_ne) (Int.emod_lt_of_pos _ h1) ⟨cells, a, b, c, hn, um_same, by rw [um_ne hn]; exact hc, ha⟩ (fun a h => um_ne h)
  unfold bDraw
  (repeat decreasing_trivial_pre_omega)
  refine i_ifd (fun hb => ?_) (fun hb => ?_)
  · (repeat decreasing_trivial_pre_omega)
    exact fin _ _ _ _ ha
  · (repeat decreasing_trivial_pre_omega)
    refine i_ifd (fun hi => ?_) (fun hi => ?_)
    · (repeat decreasing_trivial_pre_omega)
      obtain ⟨x, hx⟩ := atI_map ha (by simpa using hi)
      refine x_lst hc hx ?_
      (repeat decreasing_trivial_pre_omega)
      refine i_ifd (fun hs => ?_) (fun hs => ?_)
      · (repeat decreasing_trivial_pre_omega)
        simp only [um_um]
        exact fin _ _ _ _ (by omega)
      · (repeat decreasing_trivial_pre_omega)
        simp only [um_um]
        exact fin _ _ _ _ (by omega)
    · (repeat decreasing_trivial_pre_omega)
      simp only [um_um]
      exact fin _ _ _ _ (by omega)
/-- what is not the draws' own stays -/
def Fr (p : Addr × Addr) (M M' : Hm) : Prop := ∀ a, a ≠ p.1 → ∀ o, M a = some o → M' a = some o
theorem Fr.refl (p : Addr × Addr) (M : Hm) : Fr p M M := fun _ _ _ h => h
theorem Fr.trans {p : Addr × Addr} {A B D : Hm} (h : Fr p A B) (g : Fr p B D) : Fr p A D := fun a n o e => g a n o (h a n o e)
theorem Fr.at_ {p : Addr × Addr} {a : Addr} {A B : Hm} {r : MO} (h : Fr p A B) (n : a ≠ p.1) (e : A a = some r) : B a = some r := h a n r e
theorem Sub.fr {p : Addr × Addr} {A B : Hm} (h : Sub A B) : Fr p A B := fun a _ o e => h a o e
theorem Fr.of_eq {p : Addr × Addr} {A B : Hm} (h : ∀ a, a ≠ p.1 → B a = A a) : Fr p A B := fun a n o e => (h a n).trans e
theorem Dr.mem {M : Hm} {p : Addr × Addr} (h : Dr M p) : ∃ o, M p.1 = some o := by
  obtain ⟨cells, a, b, c, hn, hp, hc, ha⟩ := h
  exact ⟨_, hp⟩
theorem Dr.ne {M : Hm} {p : Addr × Addr} {a : Addr} (h : Dr M p) (ha : M a = none) : a ≠ p.1 := by
  obtain ⟨o, e⟩ := h.mem
  exact ne_of_old' e ha
/-- a thing of its own does not touch the draws -/
theorem Dr.upd {M : Hm} {p : Addr × Addr} {a : Addr} {o : MO} (h : Dr M p) (ha : M a = none) : Dr (um M a o) p := by
  have hne := h.ne ha
  obtain ⟨cells, i, b, c, hn, hp, hc, hi⟩ := h
  exact ⟨cells, i, b, c, hn, um_old hp ha, um_old hc ha, hi⟩
theorem Dr.sub {M M' : Hm} {p : Addr × Addr} (h : Dr M p) (s : Sub M M') : Dr M' p := by
  obtain ⟨cells, i, b, c, hn, hp, hc, hi⟩ := h
  exact ⟨cells, i, b, c, hn, s _ _ hp, s _ _ hc, hi⟩
def DrawC (C : CE) (f : Nat) : Prop := ∀ (M : Hm) (p : Addr × Addr) (many : Int) (Q : QU), Dr M p → 0 < many → many < 1073741824 →
  (∀ r M', 0 ≤ r → r < many → Dr M' p → Fr p M M' → Q (.int r) M') → C f [.ref p.1, .int many] M Q
theorem Dr.ne2 {M : Hm} {p : Addr × Addr} {a : Addr} (h : Dr M p) (ha : M a = none) : a ≠ p.2 := by
  obtain ⟨cells, i, b, c, hn, hp, hc, hi⟩ := h
  exact ne_of_old' hc ha
/-- a thing that is not the draws' own may change -/
theorem Dr.upd2 {M : Hm} {p : Addr × Addr} {a : Addr} {o : MO} (h : Dr M p) (h1 : a ≠ p.1) (h2 : a ≠ p.2) : Dr (um M a o) p := by
  obtain ⟨cells, i, b, c, hn, hp, hc, hi⟩ := h
  exact ⟨cells, i, b, c, hn, um_oth h1.symm hp, um_oth h2.symm hc, hi⟩
theorem Fr.non {p : Addr × Addr} {A B : Hm} {a : Addr} (h : Fr p A B) (n : a ≠ p.1) (e : B a = none) : A a = none := by
  cases q : A a with
  | none => rfl
  | some o => rw [h a n o q] at e; cases e
theorem Fr.upd {p : Addr × Addr} {A B : Hm} {a : Addr} {o : MO} (h : Fr p A B) (e : A a = none) : Fr p A (um B a o) := fun b n o' q => by
  rw [um_ne (ne_of_old q e)]
  exact h b n o' q
end Pl

set_option maxHeartbeats 400000
/-! one of a row; what the laws' own parts share -/
namespace Pl
open PySem L2
def bPick (f : Nat) : S := (.seq (.ret (.ix (.var 1) (.call f (.cons (.var 0) (.cons (.blt .len (.cons (.var 1) .nil)) .nil))))) .skip)
def RowAt (M : Hm) (p : Addr × Addr) (row : U) (us : List U) : Prop := row = .tup us ∨ ∃ r, row = .ref r ∧ r ≠ p.1 ∧ M r = some (.lst us)
theorem atI_nn {α : Type} {l : List α} {r : Int} (h0 : 0 ≤ r) (h : r < l.length) : ∃ x, atI l r = some x ∧ x ∈ l := by
  have hn : r.toNat < l.length := by omega
  refine ⟨l[r.toNat], ?_, List.getElem_mem hn⟩
  unfold atI ixN
  rw [if_pos h0, if_pos h]
  show l[r.toNat]? = some l[r.toNat]
  exact List.getElem?_eq_getElem hn
theorem pick_ok {C : CE} {f : Nat} (hd : DrawC C f) {nx bk ct : SU → Hm → Prop} {rt : QU} {M : Hm} {p : Addr × Addr} {row : U} {us : List U} (h : Dr M p) (hr : RowAt M p row us) (h1 : us ≠ []) (h2 : us.length < 1073741824)
    (hq : ∀ x M', x ∈ us → Dr M' p → Fr p M M' → rt x M') : wS C (bPick f) ⟨nx, rt, bk, ct⟩ (startU 2 [.ref p.1, row]) M := by
  have hl : 0 < us.length := List.length_pos_iff.mpr h1
  unfold bPick
  (repeat decreasing_trivial_pre_omega)
  rcases hr with rfl | ⟨r, rfl, hn, hm⟩
  · (repeat decreasing_trivial_pre_omega)
    refine hd _ _ _ _ h (by omega) (by omega) fun r M' r0 r1 d' fr => ?_
    obtain ⟨x, hx, hxm⟩ := atI_nn r0 r1
    refine x_tup hx ?_
    exact hq _ _ hxm d' fr
  · (repeat decreasing_trivial_pre_omega)
    refine hd _ _ _ _ h (by omega) (by omega) fun i M' r0 r1 d' fr => ?_
    obtain ⟨x, hx, hxm⟩ := atI_nn r0 r1
    refine x_lst (fr.at_ hn hm) hx ?_
    exact hq _ _ hxm d' fr
def PickC (C : CE) (f : Nat) : Prop := ∀ (M : Hm) (p : Addr × Addr) (row : U) (us : List U) (Q : QU), Dr M p → RowAt M p row us → us ≠ [] → us.length < 1073741824 →
  (∀ x M', x ∈ us → Dr M' p → Fr p M M' → Q x M') → C f [.ref p.1, row] M Q
theorem DrawC.lt {C : CE} {f : Nat} (h : DrawC C f) (M : Hm) (p : Addr × Addr) (many : Nat) (Q : QU) (d : Dr M p) (h0 : 0 < many) (h1 : many < 1073741824) (hq : ∀ (r : Nat) M', r < many → Dr M' p → Fr p M M' → Q (.int r) M') : C f [.ref p.1, .int many] M Q :=
  h M p many Q d (by omega) (by omega) fun r M' r0 r1 d' fr => by
    have e : r = ((r.toNat : Nat) : Int) := by omega
    rw [e]
    exact hq r.toNat M' (by omega) d' fr
theorem atI_nat {α : Type} {l : List α} {i : Nat} (h : i < l.length) : atI l (i : Int) = some l[i] := by
  unfold atI ixN
  rw [if_pos (by omega), if_pos (by omega)]
  show l[((i : Nat) : Int).toNat]? = _
  rw [Int.toNat_natCast]
  exact List.getElem?_eq_getElem h
theorem rngU_nat (n : Nat) : rngU 0 (n : Int) = (List.range n).map fun i => .int (i : Nat) := by
  unfold rngU
  rw [Int.sub_zero, Int.toNat_natCast]
  refine List.map_congr_left fun i _ => ?_
  rw [Int.zero_add]
def bBegin : S := (.seq (.ret (.lst (.cons (.comp [("cell", 1)] (.one 1) (.iSeq (.var 0)) .nil (.blt .int (.cons (.var 1) .nil))) (.cons (.int 0) (.cons (.int 0) (.cons (.int 7) .nil)))))) .skip)
theorem begin_ok {C : CE} {nx bk ct : SU → Hm → Prop} {rt : QU} {M : Hm} {ns : List Int} (hl : ns.length ≤ 63) (hq : ∀ (p : Addr × Addr) M', Sub M M' → Dr M' p → rt (.ref p.1) M') : wS C bBegin ⟨nx, rt, bk, ct⟩ (startU 2 [.rol (ns.map U.int)]) M := by
  unfold bBegin
  (repeat decreasing_trivial_pre_omega)
  refine compL_by (fun don rest acc M' => M' = M ∧ acc = don.map U.int) ns ⟨rfl, rfl⟩ ?_ ?_
  · intro don x rest acc M' k e ⟨e1, e2⟩ hk
    subst e1 e2
    (repeat decreasing_trivial_pre_omega)
    refine hk _ _ trivial (fun _ => ?_) ⟨rfl, by simp⟩
    have : don.length ≤ ns.length := by rw [← e]; simp
    simp [LIM]
    omega
  · intro acc M' ⟨e1, e2⟩
    subst e1 e2
    (repeat decreasing_trivial_pre_omega)
    intro q hq0
    (repeat decreasing_trivial_pre_omega)
    intro p hp0
    refine hq (p, q) _ ?_ ⟨ns, 0, 0, 7, ?_, um_same, ?_, by decide⟩
    · exact sub_um (sub_um (Sub.refl _) hq0) (um_none hp0)
    · intro e; have e : q = p := e; subst e; rw [um_same] at hp0; cases hp0
    · exact um_old um_same hp0
theorem snocs {α : Type} {P : List α → Prop} (h0 : P []) (h1 : ∀ l x, P l → P (l ++ [x])) (l : List α) : P l := by
  suffices h : ∀ (r d : List α), P d → P (d ++ r) from h l [] h0
  intro r
  induction r with
  | nil => intro d h; rwa [List.append_nil]
  | cons x r ih => intro d h; have := ih (d ++ [x]) (h1 d x h); rwa [List.append_assoc] at this
/-! dicts as rows of pairs -/
theorem dput_len (ks : List (U × U)) (x v : U) : (dput ks x v).length ≤ ks.length + 1 := by
  unfold dput
  split
  · rw [List.length_map]; omega
  · rw [List.length_append]; exact Nat.le_refl _
theorem dfind_isSome {ks : List (U × U)} {x : U} : (dfind ks x).isSome = decide (x ∈ ks.map (·.1)) := by
  unfold dfind
  rw [Option.isSome_map]
  rw [Bool.eq_iff_iff, List.find?_isSome, decide_eq_true_eq, List.mem_map]
  constructor
  · rintro ⟨p, hp, e⟩; exact ⟨p, hp, of_decide_eq_true e⟩
  · rintro ⟨p, hp, e⟩; exact ⟨p, hp, decide_eq_true e⟩
theorem dput_keys (ks : List (U × U)) (x v : U) : (dput ks x v).map (·.1) = if x ∈ ks.map (·.1) then ks.map (·.1) else ks.map (·.1) ++ [x] := by
  unfold dput
  rw [dfind_isSome]
  by_cases h : x ∈ ks.map (·.1)
  · rw [if_pos (decide_eq_true h), if_pos h, List.map_map]
    refine List.map_congr_left fun p _ => ?_
    show (if p.1 = x then (p.1, v) else p).1 = p.1
    split <;> rfl
  · rw [if_neg (by simpa using h), if_neg h, List.map_append]
    rfl
theorem dput_mem {ks : List (U × U)} {x v : U} {p : U × U} (h : p ∈ dput ks x v) : p ∈ ks ∨ p = (x, v) := by
  unfold dput at h
  split at h
  · rw [List.mem_map] at h
    obtain ⟨q, hq, e⟩ := h
    split at e
    · rename_i hx
      right; rw [← e, hx]
    · left; rw [← e]; exact hq
  · rw [List.mem_append, List.mem_singleton] at h
    exact h
theorem dput_nodup {ks : List (U × U)} {x v : U} (h : (ks.map (·.1)).Nodup) : ((dput ks x v).map (·.1)).Nodup := by
  rw [dput_keys]
  split
  · exact h
  · rename_i hn
    rw [List.nodup_append]
    exact ⟨h, by simp, fun a ha b hb e => by rw [List.mem_singleton] at hb; subst hb; subst e; exact hn ha⟩
theorem dfind_mem {ks : List (U × U)} (h : (ks.map (·.1)).Nodup) {p : U × U} (hp : p ∈ ks) : dfind ks p.1 = some p.2 := by
  induction ks with
  | nil => cases hp
  | cons q ks ih =>
    rw [List.map_cons, List.nodup_cons] at h
    unfold dfind
    rw [List.find?_cons]
    rcases List.mem_cons.mp hp with e | hp
    · subst e
      simp
    · have hne : q.1 ≠ p.1 := fun e => h.1 (by rw [e]; exact List.mem_map_of_mem hp)
      rw [show decide (q.1 = p.1) = false from decide_eq_false hne]
      exact ih h.2 hp
theorem dput_find (ks : List (U × U)) (x v : U) : dfind (dput ks x v) x = some v := by
  unfold dput
  cases h : (dfind ks x).isSome with
  | true =>
    rw [if_pos rfl]
    induction ks with
    | nil => cases h
    | cons q ks ih =>
      unfold dfind
      rw [List.map_cons, List.find?_cons]
      by_cases e : q.1 = x
      · rw [if_pos e]
        simp [e]
      · rw [if_neg e, show decide (q.1 = x) = false from decide_eq_false e]
        refine ih ?_
        unfold dfind at h ⊢
        rw [List.find?_cons, show decide (q.1 = x) = false from decide_eq_false e] at h
        exact h
  | false =>
    rw [if_neg (by decide)]
    unfold dfind at h ⊢
    rw [List.find?_append]
    cases q : ks.find? (fun p => decide (p.1 = x)) with
    | some p => rw [q] at h; cases h
    | none => simp
theorem cutU_take {α : Type} (l : List α) (n : Nat) : cutU l none (some (n : Int)) = l.take n := by
  unfold cutU HT.sIx
  simp only [List.drop_zero, Nat.sub_zero]
  rw [if_neg (by omega), Int.toNat_natCast]
  rcases Nat.le_total n l.length with h | h
  · rw [Nat.min_eq_left h]
  · rw [Nat.min_eq_right h, List.take_length, List.take_of_length_le h]
theorem okL_of {l : List U} (h : ∀ x ∈ l, x.ok 59 = true) : okL l = true := List.all_eq_true.mpr h
theorem pd_tup (x : U) (l : List U) : pd (.tup (x :: l)) = .tuple (pd x :: pdL l) := by simp [pd, pdL]
end Pl

set_option maxHeartbeats 400000
/-! the laws' names and orders -/
namespace Pl
open PySem L2
/-- _law_rare: d, many -/
def B_law_rare (law_draw : Nat) : S := (.seq (.ret (.cmp .eq (.call law_draw (.cons (.var 0) (.cons (.var 1) .nil))) (.bin .fdiv (.var 1) (.int 2)))) .skip)
/-- _law_shuffled: d, row, left, found, k -/
def B_law_shuffled (law_draw : Nat) : S := (.seq (.asg 2 (.blt .list (.cons (.var 1) .nil))) (.seq (.asg 3 (.lst .nil)) (.seq (.for_ (.one 4) (.iRange (.blt .len (.cons (.var 2) .nil))) (.seq (.expr (.mth .append (.var 3) (.cons (.mth .popAt (.var 2) (.cons (.call law_draw (.cons (.var 0) (.cons (.blt .len (.cons (.var 2) .nil)) .nil))) .nil)) .nil))) .skip)) (.seq (.ret (.var 3)) .skip))))
/-- _law_files:  -/
def B_law_files : S := (.seq (.ret (.mth .split (.str "x y z lib gen conf objs tag page table o hdr mainfile ver docs w zz linkmap au cc") (.cons (.str " ") .nil))) .skip)
/-- _law_rules:  -/
def B_law_rules : S := (.seq (.ret (.mth .split (.str "r q p all link comp lexer bind pack test goal x lastrule u v deep") (.cons (.str " ") .nil))) .skip)
theorem rare_ok {C : CE} {fd : Nat} (hd : DrawC C fd) {nx bk ct : SU → Hm → Prop} {rt : QU} {M : Hm} {p : Addr × Addr} {many : Nat} (d : Dr M p) (h0 : 0 < many) (h1 : many < 1073741824)
    (hq : ∀ b M', Dr M' p → Fr p M M' → rt (.bl b) M') : wS C (B_law_rare fd) ⟨nx, rt, bk, ct⟩ (startU 2 [.ref p.1, .int many]) M := by
  unfold B_law_rare
  (repeat decreasing_trivial_pre_omega)
  refine hd.lt M p many _ d h0 h1 fun r M' hr d' fr => ?_
  (repeat decreasing_trivial_pre_omega)
  exact hq _ M' d' fr
def RareC (C : CE) (f : Nat) : Prop := ∀ (M : Hm) (p : Addr × Addr) (many : Nat) (Q : QU), Dr M p → 0 < many → many < 1073741824 → (∀ b M', Dr M' p → Fr p M M' → Q (.bl b) M') → C f [.ref p.1, .int many] M Q
/-- a list of names that is split -/
def NamesC (C : CE) (f : Nat) (P : Str → Prop) : Prop := ∀ (M : Hm) (Q : QU), (∀ (r : Addr) (l : List Str) M', Sub M M' → M r = none → M' r = some (.lst (l.map U.str)) → l ≠ [] → l.length ≤ 100 → (∀ x ∈ l, P x) → Q (.ref r) M') → C f [] M Q
theorem ixN_nat {n i : Nat} (h : i < n) : ixN n (i : Int) = some i := by
  unfold ixN
  rw [if_pos (by omega), if_pos (by omega), Int.toNat_natCast]
theorem eraseIdx_perm {α : Type} : ∀ (l : List α) (i : Nat) (h : i < l.length), (l[i] :: l.eraseIdx i).Perm l
  | [], i, h => by cases h
  | x :: xs, 0, _ => by simp
  | x :: xs, i + 1, h => by
    simp only [List.getElem_cons_succ, List.eraseIdx_cons_succ]
    exact (List.Perm.swap x (xs[i]'(by simpa using h)) (xs.eraseIdx i)).trans ((eraseIdx_perm xs i (by simpa using h)).cons x)
/-- what is shuffled is a list: in some order -/
theorem shuffled_ok {C : CE} {fd : Nat} (hd : DrawC C fd) {nx bk ct : SU → Hm → Prop} {rt : QU} {M : Hm} {p : Addr × Addr} {r : Addr} {us : List U} (d : Dr M p) (hr : M r = some (.lst us)) (hl : us.length < 100000)
    (hq : ∀ q ws M', ws.Perm us → Dr M' p → Fr p M M' → q ≠ p.1 → q ≠ p.2 → M q = none → M' q = some (.lst ws) → rt (.ref q) M') : wS C (B_law_shuffled fd) ⟨nx, rt, bk, ct⟩ (startU 5 [.ref p.1, .ref r]) M := by
  unfold B_law_shuffled
  (repeat decreasing_trivial_pre_omega)
  intro x hx
  have nx1 := d.ne hx
  have nx2 := d.ne2 hx
  (repeat decreasing_trivial_pre_omega)
  intro y hy
  have hyx : y ≠ x := um_noneN hy
  have hyM := um_none hy
  have ny1 := d.ne hyM
  have ny2 := d.ne2 hyM
  (repeat decreasing_trivial_pre_omega)
  refine ⟨by unfold LIM; omega, by unfold LIM; omega, ?_⟩
  rw [rngU_nat]
  refine forL_by (enc := fun i : Nat => U.int (i : Nat)) (fun don rest σ M' => ∃ u4 left found, σ = [some (.ref p.1), some (.ref r), some (.ref x), some (.ref y), u4] ∧ Dr M' p ∧ Fr p M M' ∧ M' x = some (.lst left) ∧ M' y = some (.lst found) ∧ left.length = rest.length ∧ (found ++ left).Perm us) (List.range us.length)
    ⟨_, us, [], rfl, (d.upd hx).upd hy, ((Fr.refl _ _).upd hx).upd hyM, um_old um_same hy, um_same, by rw [List.length_range], by simp⟩ ?_ ?_
  · intro don i rest σ M' k e ⟨u4, left, found, e1, e2, e3, e4, e5, e6, e7⟩ hk
    subst e1
    have hle : left.length ≤ us.length := by
      have := e7.length_eq
      rw [List.length_append] at this
      omega
    have hfl : found.length ≤ us.length := by
      have := e7.length_eq
      rw [List.length_append] at this
      omega
    have h0 : 0 < left.length := by rw [e6]; simp
    (repeat decreasing_trivial_pre_omega)
    refine hd.lt M' p left.length _ e2 h0 (by omega) fun j M2 hj d2 fr2 => ?_
    have e4' := fr2.at_ nx1 e4
    have e5' := fr2.at_ ny1 e5
    (repeat decreasing_trivial_pre_omega)
    refine m_popAt e4' (by unfold LIM; omega) (ixN_nat hj) (List.getElem?_eq_getElem hj) ?_
    (repeat decreasing_trivial_pre_omega)
    refine m_app (us := found) (um_oth hyx e5') (by unfold LIM; omega) ?_
    (repeat decreasing_trivial_pre_omega)
    refine hk _ _ trivial ⟨_, left.eraseIdx j, found ++ [left[j]], rfl, (d2.upd2 nx1 nx2).upd2 ny1 ny2, ((e3.trans fr2).upd hx).upd hyM, um_oth hyx.symm um_same, um_same, ?_, ?_⟩
    · rw [List.length_eraseIdx, if_pos hj, e6]; simp
    · refine List.Perm.trans ?_ e7
      rw [List.append_assoc]
      exact (eraseIdx_perm left j hj).append_left found
  · intro σ M' ⟨u4, left, found, e1, e2, e3, e4, e5, e6, e7⟩
    subst e1
    have hnil : left = [] := List.eq_nil_of_length_eq_zero e6
    subst hnil
    rw [List.append_nil] at e7
    (repeat decreasing_trivial_pre_omega)
    exact hq y found M' e7 e2 e3 ny1 ny2 hyM e5
end Pl

set_option maxHeartbeats 400000
/-! k69: steps, answers; what the program tells -/
namespace K69
open PySem L2 Pl
/-- spoken: answers, answer -/
def B_spoken : S := (.seq (.ret (.comp [("answer", 1)] (.one 1) (.iSeq (.var 0)) (.notN (.var 1)) (.var 1))) .skip)
/-- lying_places: answers, step, places, place, answer -/
def B_lying_places : S := (.seq (.asg 2 (.lst .nil)) (.seq (.for_ (.many [3, 4]) (.iEnum (.var 0)) (.seq (.ifs (.ands (.cons (.notN (.var 4)) (.cons (.cmp .ne (.var 4) (.var 1)) .nil))) (.seq (.expr (.mth .append (.var 2) (.cons (.var 3) .nil))) .skip) .skip) .skip)) (.seq (.ret (.blt .tuple (.cons (.var 2) .nil))) .skip)))
/-- possible: answers, liars, found, step -/
def B_possible (spoken : Nat) (lying_places : Nat) : S := (.seq (.ifs (.cmp .le (.blt .len (.cons (.call spoken (.cons (.var 0) .nil)) .nil)) (.var 1)) (.seq (.ret .non) .skip) .skip) (.seq (.asg 2 (.dnew true)) (.seq (.for_ (.one 3) (.iSeq (.call spoken (.cons (.var 0) .nil))) (.seq (.ifs (.cmp .le (.blt .len (.cons (.call lying_places (.cons (.var 0) (.cons (.var 3) .nil))) .nil)) (.var 1)) (.seq (.setIx (.var 2) (.var 3) (.bl true)) .skip) .skip) .skip)) (.seq (.ret (.blt .tuple (.cons (.blt .sorted (.cons (.var 2) .nil)) .nil))) .skip))))
/-- trusted: answers, liars, steps -/
def B_trusted (possible : Nat) : S := (.seq (.asg 2 (.call possible (.cons (.var 0) (.cons (.var 1) .nil)))) (.seq (.ifs (.isN (.var 2)) (.seq (.ret (.tup (.cons (.str "open") .nil))) .skip) .skip) (.seq (.ifs (.cmp .eq (.blt .len (.cons (.var 2) .nil)) (.int 0)) (.seq (.ret (.tup (.cons (.str "none") .nil))) .skip) .skip) (.seq (.ifs (.cmp .eq (.blt .len (.cons (.var 2) .nil)) (.int 1)) (.seq (.ret (.tup (.cons (.str "sure") (.cons (.ix (.var 2) (.int 0)) .nil)))) .skip) .skip) (.seq (.ret (.tup (.cons (.str "open") .nil))) .skip)))))
/-- lies: answers, liars, step, places -/
def B_lies (lying_places : Nat) : S := (.seq (.asg 3 (.call lying_places (.cons (.var 0) (.cons (.var 2) .nil)))) (.seq (.ifs (.cmp .gt (.blt .len (.cons (.var 3) .nil)) (.var 1)) (.seq (.ret .non) .skip) .skip) (.seq (.ret (.var 3)) .skip)))
inductive Sp where | ask (r : Str) | done | see (f : Str) | put (f : Str) (c : Int)
  deriving DecidableEq
def encS : Sp → U
  | .ask r => .tup [.str "ask", .str r]
  | .done => .tup [.str "done"]
  | .see f => .tup [.str "see", .str f]
  | .put f c => .tup [.str "put", .str f, .int c]
def Sp.ok : Sp → Prop
  | .ask r => okS r = true
  | .done => True
  | .see f => okS f = true
  | .put f _ => okS f = true
theorem encS_inj {a b : Sp} (h : encS a = encS b) : a = b := by
  have h1 : ("ask" : Str) ≠ "see" := by decide +kernel
  cases a <;> cases b <;> simp [encS] at h <;> first | rfl | (rw [h]; done) | (rw [h.1, h.2]; done) | exact absurd h.1 h1 | exact absurd h.1.symm h1
theorem encS_eq (a b : Sp) : decide (encS a = encS b) = decide (a = b) := by
  by_cases h : a = b
  · subst h; simp
  · rw [decide_eq_false h, decide_eq_false fun z => h (encS_inj z)]
theorem encS_ne (a : Sp) : encS a ≠ .non := by cases a <;> simp [encS]
theorem encS_ok {a : Sp} (h : a.ok) : ∀ n, 2 ≤ n → (encS a).ok n = true := by
  intro n hn
  obtain ⟨m, rfl⟩ : ∃ m, n = m + 2 := ⟨n - 2, by omega⟩
  have s1 : okS ("ask" : Str) = true := by decide +kernel
  have s2 : okS ("done" : Str) = true := by decide +kernel
  have s3 : okS ("see" : Str) = true := by decide +kernel
  have s4 : okS ("put" : Str) = true := by decide +kernel
  cases a <;> simp only [Sp.ok] at h <;> simp [encS, U.ok, s1, s2, s3, s4, h]
theorem encS_key (a : Sp) : isKeyT (encS a) = true := by cases a <;> rfl
def encA : Option Sp → U
  | none => .non
  | some s => encS s
theorem eq_sp {a b : Sp} {M : Hm} {Q : Bool → Hm → Prop} (ha : a.ok) (hb : b.ok) (q : Q (decide (a = b)) M) : eqW (encS a) (encS b) M Q := by
  have h1 := encS_ok ha 60 (by decide)
  have h2 := encS_ok hb 60 (by decide)
  rw [← encS_eq] at q
  cases a <;> cases b <;> exact ⟨h1, h2, q⟩
def okA (l : List (Option Sp)) : Prop := ∀ s, some s ∈ l → s.ok
theorem spoken_ok {C : CE} {nx bk ct : SU → Hm → Prop} {rt : QU} {M : Hm} {ans : List (Option Sp)} (hl : ans.length < LIM) (hq : ∀ p M', Sub M M' → M' p = some (.lst ((ans.filterMap id).map encS)) → rt (.ref p) M') :
    wS C B_spoken ⟨nx, rt, bk, ct⟩ (startU 2 [.tup (ans.map encA)]) M := by
  unfold B_spoken
  (repeat decreasing_trivial_pre_omega)
  refine compL_by (enc := encA) (fun don rest acc M' => M' = M ∧ acc = (don.filterMap id).map encS) ans ⟨rfl, rfl⟩ ?_ ?_
  · intro don x rest acc M' k e ⟨e1, e2⟩ hk
    subst e1 e2
    have hlen : ((don.filterMap id).map encS).length < LIM := by
      rw [List.length_map]
      have h1 := List.length_filterMap_le id don
      have h2 : don.length + rest.length + 1 = ans.length := by rw [← e]; simp; omega
      omega
    cases x with
    | none =>
      simp only [encA]
      (repeat decreasing_trivial_pre_omega)
      exact hk _ _ trivial (fun h => by cases h) ⟨rfl, by simp⟩
    | some s =>
      have hne := encS_ne s
      simp only [encA]
      (repeat decreasing_trivial_pre_omega)
      exact hk _ _ trivial (fun _ => hlen) ⟨rfl, by simp⟩
  · intro acc M' ⟨e1, e2⟩
    subst e1 e2
    intro p hp
    exact hq p _ (sub_new (Sub.refl _) hp) um_same
def bad (s : Sp) : Option (Option Sp) → Bool
  | some (some a) => !decide (a = s)
  | _ => false
/-- where an answer is another than s -/
def lyM (ans : List (Option Sp)) (s : Sp) : List Nat := (List.range ans.length).filter fun i => bad s ans[i]?
theorem lyM_snoc (l : List (Option Sp)) (x : Option Sp) (s : Sp) : lyM (l ++ [x]) s = lyM l s ++ if bad s (some x) = true then [l.length] else [] := by
  unfold lyM
  rw [List.length_append, List.length_singleton, List.range_succ, List.filter_append]
  congr 1
  · refine List.filter_congr fun i hi => ?_
    rw [List.getElem?_append_left (List.mem_range.mp hi)]
  · rw [List.filter_cons]
    simp
theorem lyM_len (l : List (Option Sp)) (s : Sp) : (lyM l s).length ≤ l.length := by
  unfold lyM
  have := List.length_filter_le (fun i => bad s l[i]?) (List.range l.length)
  rwa [List.length_range] at this
def natU (i : Nat) : U := .int (i : Nat)
theorem lying_ok {C : CE} {nx bk ct : SU → Hm → Prop} {rt : QU} {M : Hm} {ans : List (Option Sp)} {s : Sp} (hl : ans.length < LIM) (ho : okA ans) (hs : s.ok) (hq : ∀ M', Sub M M' → rt (.tup ((lyM ans s).map natU)) M') :
    wS C B_lying_places ⟨nx, rt, bk, ct⟩ (startU 5 [.tup (ans.map encA), encS s]) M := by
  unfold B_lying_places
  (repeat decreasing_trivial_pre_omega)
  intro p hp
  (repeat decreasing_trivial_pre_omega)
  refine forL_enum (enc := encA) (fun don rest σ M' => (∃ u v, σ = [some (.tup (ans.map encA)), some (encS s), some (.ref p), u, v]) ∧ M' = um M p (.lst ((lyM don s).map natU))) ans ⟨⟨_, _, rfl⟩, rfl⟩ ?_ ?_
  · intro don x rest σ M' k e ⟨⟨u, v, e1⟩, e2⟩ hk
    subst e1 e2
    have hlen : ((lyM don s).map natU).length < LIM := by
      rw [List.length_map]
      have h1 := lyM_len don s
      have h2 : don.length + rest.length + 1 = ans.length := by rw [← e]; simp; omega
      omega
    have hsn := lyM_snoc don x s
    cases x with
    | none =>
      simp only [encA]
      (repeat decreasing_trivial_pre_omega)
      exact hk _ _ trivial ⟨⟨_, _, rfl⟩, by rw [hsn]; simp [bad]⟩
    | some a =>
      have ha : a.ok := ho a (by rw [← e]; simp)
      have hne := encS_ne a
      simp only [encA]
      (repeat decreasing_trivial_pre_omega)
      refine eq_sp ha hs ?_
      by_cases h : a = s
      · (repeat decreasing_trivial_pre_omega)
        exact hk _ _ trivial ⟨⟨_, _, rfl⟩, by rw [hsn]; simp [bad, h]⟩
      · (repeat decreasing_trivial_pre_omega)
        refine m_app um_same hlen ?_
        (repeat decreasing_trivial_pre_omega)
        exact hk _ _ trivial ⟨⟨_, _, rfl⟩, by rw [hsn, um_um]; simp [bad, h, natU]⟩
  · intro σ M' ⟨⟨u, v, e1⟩, e2⟩
    subst e1 e2
    (repeat decreasing_trivial_pre_omega)
    exact hq _ (sub_new (Sub.refl _) hp)
def SpokenC (C : CE) (f : Nat) : Prop := ∀ (M : Hm) (ans : List (Option Sp)) (Q : QU), ans.length < LIM → (∀ p M', Sub M M' → M' p = some (.lst ((ans.filterMap id).map encS)) → Q (.ref p) M') → C f [.tup (ans.map encA)] M Q
def LyingC (C : CE) (f : Nat) : Prop := ∀ (M : Hm) (ans : List (Option Sp)) (s : Sp) (Q : QU), ans.length < LIM → okA ans → s.ok → (∀ M', Sub M M' → Q (.tup ((lyM ans s).map natU)) M') → C f [.tup (ans.map encA), encS s] M Q
def keysL (ans : List (Option Sp)) (L : Nat) (l : List Sp) : List Sp := l.foldl (fun acc s => if (lyM ans s).length ≤ L then (if s ∈ acc then acc else acc ++ [s]) else acc) []
theorem keysL_snoc (ans : List (Option Sp)) (L : Nat) (l : List Sp) (s : Sp) : keysL ans L (l ++ [s]) = if (lyM ans s).length ≤ L then (if s ∈ keysL ans L l then keysL ans L l else keysL ans L l ++ [s]) else keysL ans L l := by
  unfold keysL
  rw [List.foldl_append]
  rfl
theorem keysL_len (ans : List (Option Sp)) (L : Nat) (l : List Sp) : (keysL ans L l).length ≤ l.length := by
  induction l using snocs with
  | h0 => exact Nat.le_refl _
  | h1 l s ih =>
    rw [keysL_snoc, List.length_append]
    split
    · split
      · simp; omega
      · simp; omega
    · simp; omega
theorem keysL_mem (ans : List (Option Sp)) (L : Nat) (l : List Sp) (s : Sp) : s ∈ keysL ans L l ↔ s ∈ l ∧ (lyM ans s).length ≤ L := by
  induction l using snocs with
  | h0 => simp [keysL]
  | h1 l t ih =>
    rw [keysL_snoc, List.mem_append, List.mem_singleton]
    by_cases h1 : (lyM ans t).length ≤ L
    · rw [if_pos h1]
      by_cases h2 : t ∈ keysL ans L l
      · rw [if_pos h2, ih]
        constructor
        · exact fun h => ⟨.inl h.1, h.2⟩
        · rintro ⟨h | rfl, h'⟩
          · exact ⟨h, h'⟩
          · exact ih.mp h2
      · rw [if_neg h2, List.mem_append, List.mem_singleton, ih]
        constructor
        · rintro (h | rfl)
          · exact ⟨.inl h.1, h.2⟩
          · exact ⟨.inr rfl, h1⟩
        · rintro ⟨h | rfl, h'⟩
          · exact .inl ⟨h, h'⟩
          · exact .inr rfl
    · rw [if_neg h1, ih]
      constructor
      · exact fun h => ⟨.inl h.1, h.2⟩
      · rintro ⟨h | rfl, h'⟩
        · exact ⟨h, h'⟩
        · exact absurd h' h1
theorem keysL_nodup (ans : List (Option Sp)) (L : Nat) (l : List Sp) : (keysL ans L l).Nodup := by
  induction l using snocs with
  | h0 => exact List.nodup_nil
  | h1 l t ih =>
    rw [keysL_snoc]
    split
    · split
      · exact ih
      · rename_i h
        rw [List.nodup_append]
        exact ⟨ih, by simp, fun a ha b hb e => by rw [List.mem_singleton] at hb; subst hb; subst e; exact h ha⟩
    · exact ih
def keyD (l : List Sp) : List (U × U) := l.map fun s => (encS s, .bl true)
theorem keyD_put (l : List Sp) (s : Sp) : dput (keyD l) (encS s) (.bl true) = keyD (if s ∈ l then l else l ++ [s]) := by
  unfold keyD dput
  rw [dfind_isSome]
  have hm : (encS s ∈ (l.map fun s => (encS s, (.bl true : U))).map (·.1)) ↔ s ∈ l := by
    rw [List.map_map, List.mem_map]
    constructor
    · rintro ⟨t, ht, e⟩
      have e : encS t = encS s := e
      rw [← encS_inj e]
      exact ht
    · intro h; exact ⟨s, h, rfl⟩
  by_cases h : s ∈ l
  · rw [if_pos (decide_eq_true (hm.mpr h)), if_pos h, List.map_map]
    refine List.map_congr_left fun t _ => ?_
    show (if encS t = encS s then (encS t, U.bl true) else (encS t, U.bl true)) = _
    split <;> rfl
  · rw [if_neg (by rw [decide_eq_true_eq]; exact fun z => h (hm.mp z)), if_neg h, List.map_append]
    rfl
theorem encS_alike (a b : Sp) : W.alike (pd (encS a)) (pd (encS b)) = true := by
  cases a <;> cases b <;> simp [encS, pd, pdL, W.alike, W.alikeAll]
theorem sortOk_sp {l : List Sp} (ho : ∀ s ∈ l, s.ok) (hl : l.length ≤ LIM) : sortOk (l.map encS) := by
  refine ⟨?_, ?_, ?_, by rw [List.length_map]; exact hl⟩
  · refine List.all_eq_true.mpr fun x hx => ?_
    rw [List.mem_map] at hx
    obtain ⟨s, hs, rfl⟩ := hx
    exact encS_ok (ho s hs) 59 (by decide)
  · intro d hd d' hd'
    simp only [List.mem_map] at hd hd'
    obtain ⟨_, ⟨a, _, rfl⟩, rfl⟩ := hd
    obtain ⟨_, ⟨b, _, rfl⟩, rfl⟩ := hd'
    exact encS_alike a b
  · left
    intro d hd
    simp only [List.mem_map] at hd
    obtain ⟨_, ⟨a, _, rfl⟩, rfl⟩ := hd
    cases a <;> exact ⟨_, _, pd_tup _ _⟩
/-- what possible tells -/
def possU (ans : List (Option Sp)) (L : Nat) : U := if (ans.filterMap id).length ≤ L then .non else .tup (sortU ((keysL ans L (ans.filterMap id)).map encS))
theorem possible_ok {C : CE} {f1 f2 : Nat} (c1 : SpokenC C f1) (c2 : LyingC C f2) {nx bk ct : SU → Hm → Prop} {rt : QU} {M : Hm} {ans : List (Option Sp)} {L : Nat} (hl : ans.length < LIM) (ho : okA ans) (hq : ∀ M', Sub M M' → rt (possU ans L) M') :
    wS C (B_possible f1 f2) ⟨nx, rt, bk, ct⟩ (startU 4 [.tup (ans.map encA), .int L]) M := by
  have hlf := List.length_filterMap_le id ans
  unfold B_possible
  (repeat decreasing_trivial_pre_omega)
  refine c1 _ _ _ hl fun p1 M1 s1 e1 => ?_
  (repeat decreasing_trivial_pre_omega)
  by_cases h : ((((ans.filterMap id).map encS).length : Nat) : Int) ≤ (L : Int)
  · (repeat decreasing_trivial_pre_omega)
    have := hq M1 s1
    rw [possU, if_pos (by rw [List.length_map] at h; omega)] at this
    exact this
  have hp : possU ans L = .tup (sortU ((keysL ans L (ans.filterMap id)).map encS)) := by
    rw [possU, if_neg (by rw [List.length_map] at h; omega)]
  (repeat decreasing_trivial_pre_omega)
  intro q hq0
  (repeat decreasing_trivial_pre_omega)
  refine c1 _ _ _ hl fun p2 M2 s2 e2 => ?_
  have hqp : p2 ≠ q := fun z => by
    subst z
    have := s2 _ _ um_same
    rw [e2] at this
    cases this
  (repeat decreasing_trivial_pre_omega)
  refine forL_by (enc := encS) (fun don rest σ M' => (∃ u, σ = [some (.tup (ans.map encA)), some (.int L), some (.ref q), u]) ∧ (∀ a, a ≠ q → ∀ o, M2 a = some o → M' a = some o) ∧ M' q = some (.dct false true (keyD (keysL ans L don)))) (ans.filterMap id) ⟨⟨_, rfl⟩, fun a _ o h => h, s2 _ _ um_same⟩ ?_ ?_
  · intro don x rest σ M' k e ⟨⟨u, e3⟩, e4, e5⟩ hk
    subst e3
    have hx : x ∈ ans.filterMap id := by rw [← e]; simp
    have hxa : some x ∈ ans := by
      rw [List.mem_filterMap] at hx
      obtain ⟨a, ha, e⟩ := hx
      cases a with
      | none => cases e
      | some b => cases e; exact ha
    have hdl : don.length + rest.length + 1 = (ans.filterMap id).length := by rw [← e]; simp; omega
    have hsn := keysL_snoc ans L don x
    (repeat decreasing_trivial_pre_omega)
    refine c2 _ _ _ _ hl ho (ho x hxa) fun M3 s3 => ?_
    have g3 : ∀ a, a ≠ q → ∀ o, M2 a = some o → M3 a = some o := fun a n o h => s3 _ _ (e4 a n o h)
    have e5' := s3 _ _ e5
    (repeat decreasing_trivial_pre_omega)
    by_cases hc : (((lyM ans x).map natU).length : Int) ≤ (L : Int)
    · have hc' : (lyM ans x).length ≤ L := by rw [List.length_map] at hc; omega
      rw [if_pos hc'] at hsn
      (repeat decreasing_trivial_pre_omega)
      have hkl : (keyD (keysL ans L don)).length < LIM := by
        unfold keyD
        rw [List.length_map]
        have := keysL_len ans L don
        omega
      refine st_dct (t := true) (x := encS x) e5' (encS_key x) hkl ?_
      rw [keyD_put, ← hsn]
      (repeat decreasing_trivial_pre_omega)
      exact hk _ _ (by rw [um_ne hqp]; exact g3 _ hqp _ e2) ⟨⟨_, rfl⟩, fun a n o h => by rw [um_ne n]; exact g3 a n o h, um_same⟩
    · have hc' : ¬ (lyM ans x).length ≤ L := by rw [List.length_map] at hc; omega
      rw [if_neg hc'] at hsn
      (repeat decreasing_trivial_pre_omega)
      exact hk _ _ (g3 _ hqp _ e2) ⟨⟨_, rfl⟩, g3, by rw [hsn]; exact e5'⟩
  · intro σ M' ⟨⟨u, e3⟩, e4, e5⟩
    subst e3
    have ek : (keyD (keysL ans L (ans.filterMap id))).map (·.1) = (keysL ans L (ans.filterMap id)).map encS := by unfold keyD; rw [List.map_map]; rfl
    have okk : sortOk ((keysL ans L (ans.filterMap id)).map encS) := sortOk_sp (fun s hs => by
      have hx := ((keysL_mem _ _ _ _).mp hs).1
      rw [List.mem_filterMap] at hx
      obtain ⟨a, ha, e⟩ := hx
      cases a with
      | none => cases e
      | some b => cases e; exact ho _ ha) (by have := keysL_len ans L (ans.filterMap id); omega)
    (repeat decreasing_trivial_pre_omega)
    refine f_sortD e5 (by rw [ek]; exact okk) ?_
    rw [ek]
    intro r hr
    (repeat decreasing_trivial_pre_omega)
    rw [← hp]
    refine hq _ fun a o ha => ?_
    have h1 := s1 _ _ ha
    have hne : a ≠ q := ne_of_old h1 hq0
    exact um_old (e4 a hne o (s2 _ _ (um_old h1 hq0))) hr
def PossC (C : CE) (f : Nat) : Prop := ∀ (M : Hm) (ans : List (Option Sp)) (L : Nat) (Q : QU), ans.length < LIM → okA ans → (∀ M', Sub M M' → Q (possU ans L) M') → C f [.tup (ans.map encA), .int L] M Q
def trustU (u : U) : U := match u with
  | .tup [x] => .tup [.str "sure", x]
  | .tup [] => .tup [.str "none"]
  | _ => .tup [.str "open"]
theorem trusted_ok {C : CE} {f : Nat} (c : PossC C f) {nx bk ct : SU → Hm → Prop} {rt : QU} {M : Hm} {ans : List (Option Sp)} {L : Nat} (hl : ans.length < LIM) (ho : okA ans) (hq : ∀ M', Sub M M' → rt (trustU (possU ans L)) M') :
    wS C (B_trusted f) ⟨nx, rt, bk, ct⟩ (startU 3 [.tup (ans.map encA), .int L]) M := by
  unfold B_trusted
  (repeat decreasing_trivial_pre_omega)
  refine c _ _ _ _ hl ho fun M1 s1 => ?_
  have hq1 := hq M1 s1
  have hshape : possU ans L = .non ∨ ∃ l, possU ans L = .tup l := by
    unfold possU
    split
    · exact .inl rfl
    · exact .inr ⟨_, rfl⟩
  generalize possU ans L = u at hq1 hshape ⊢
  rcases hshape with rfl | ⟨l, rfl⟩
  · (repeat decreasing_trivial_pre_omega)
    exact hq1
  · match l, hq1 with
    | [], hq1 =>
      (repeat decreasing_trivial_pre_omega)
      exact hq1
    | [x], hq1 =>
      (repeat decreasing_trivial_pre_omega)
      exact hq1
    | x :: y :: l, hq1 =>
      (repeat decreasing_trivial_pre_omega)
      have h0 : ¬ (((x :: y :: l).length : Nat) : Int) = 0 := by simp; omega
      have h1 : ¬ (((x :: y :: l).length : Nat) : Int) = 1 := by simp; omega
      (repeat decreasing_trivial_pre_omega)
      exact hq1
def liesU (ans : List (Option Sp)) (L : Nat) (s : Sp) : U := if L < (lyM ans s).length then .non else .tup ((lyM ans s).map natU)
theorem lies_ok {C : CE} {f : Nat} (c : LyingC C f) {nx bk ct : SU → Hm → Prop} {rt : QU} {M : Hm} {ans : List (Option Sp)} {L : Nat} {s : Sp} (hl : ans.length < LIM) (ho : okA ans) (hs : s.ok) (hq : ∀ M', Sub M M' → rt (liesU ans L s) M') :
    wS C (B_lies f) ⟨nx, rt, bk, ct⟩ (startU 4 [.tup (ans.map encA), .int L, encS s]) M := by
  unfold B_lies
  (repeat decreasing_trivial_pre_omega)
  refine c _ _ _ _ hl ho hs fun M1 s1 => ?_
  have hq1 := hq M1 s1
  unfold liesU at hq1
  (repeat decreasing_trivial_pre_omega)
  by_cases h : (L : Int) < (((lyM ans s).map natU).length : Nat)
  · rw [if_pos (by rw [List.length_map] at h; omega)] at hq1
    (repeat decreasing_trivial_pre_omega)
    exact hq1
  · rw [if_neg (by rw [List.length_map] at h; omega)] at hq1
    (repeat decreasing_trivial_pre_omega)
    exact hq1
end K69

set_option maxHeartbeats 400000
/-! k69: the law's draws -/
namespace K69
open PySem L2 Pl
/-- _law_any_name: d, pool -/
def B_law_any_name (law_pick : Nat) (law_rare : Nat) : S := (.seq (.ifs (.call law_rare (.cons (.var 0) (.cons (.int 9) .nil))) (.seq (.ret (.call law_pick (.cons (.var 0) (.cons (.lst (.cons (.str "else") (.cons (.str "") (.cons (.str "Ab") (.cons (.str "ninechars") (.cons (.str "a1") (.cons (.str "done") (.cons (.str "x y") .nil)))))))) .nil)))) .skip) .skip) (.seq (.ret (.call law_pick (.cons (.var 0) (.cons (.var 1) .nil)))) .skip))
/-- _law_any_step: d, kind, content -/
def B_law_any_step (law_any_name : Nat) (law_files : Nat) (law_rare : Nat) (law_pick : Nat) (law_draw : Nat) (law_rules : Nat) : S := (.seq (.asg 1 (.call law_draw (.cons (.var 0) (.cons (.int 6) .nil)))) (.seq (.ifs (.cmp .eq (.var 1) (.int 0)) (.seq (.ret (.tup (.cons (.str "ask") (.cons (.call law_any_name (.cons (.var 0) (.cons (.call law_rules .nil) .nil))) .nil)))) .skip) .skip) (.seq (.ifs (.cmp .eq (.var 1) (.int 1)) (.seq (.ret (.tup (.cons (.str "done") .nil))) .skip) .skip) (.seq (.ifs (.cmp .lt (.var 1) (.int 4)) (.seq (.ret (.tup (.cons (.str "see") (.cons (.call law_any_name (.cons (.var 0) (.cons (.call law_files .nil) .nil))) .nil)))) .skip) .skip) (.seq (.asg 2 (.call law_draw (.cons (.var 0) (.cons (.int 4) .nil)))) (.seq (.ifs (.call law_rare (.cons (.var 0) (.cons (.int 7) .nil))) (.seq (.asg 2 (.call law_pick (.cons (.var 0) (.cons (.lst (.cons (.neg (.int 1000)) (.cons (.neg (.int 1)) (.cons (.int 4) (.cons (.int 1000) .nil))))) .nil)))) .skip) .skip) (.seq (.ret (.tup (.cons (.str "put") (.cons (.call law_any_name (.cons (.var 0) (.cons (.call law_files .nil) .nil))) (.cons (.var 2) .nil))))) .skip)))))))
/-- _law_near_step: d, step, way -/
def B_law_near_step (law_any_name : Nat) (law_rules : Nat) (law_draw : Nat) : S := (.seq (.asg 2 (.call law_draw (.cons (.var 0) (.cons (.int 3) .nil)))) (.seq (.ifs (.cmp .eq (.ix (.var 1) (.int 0)) (.str "done")) (.seq (.ret (.tup (.cons (.str "ask") (.cons (.call law_any_name (.cons (.var 0) (.cons (.call law_rules .nil) .nil))) .nil)))) .skip) .skip) (.seq (.ifs (.cmp .eq (.var 2) (.int 0)) (.seq (.ret (.ite (.cmp .eq (.ix (.var 1) (.int 0)) (.str "ask")) (.tup (.cons (.str "see") (.cons (.ix (.var 1) (.int 1)) .nil))) (.tup (.cons (.str "ask") (.cons (.ix (.var 1) (.int 1)) .nil))))) .skip) .skip) (.seq (.ifs (.ands (.cons (.cmp .eq (.ix (.var 1) (.int 0)) (.str "put")) (.cons (.cmp .eq (.var 2) (.int 1)) .nil))) (.seq (.ret (.tup (.cons (.str "put") (.cons (.ix (.var 1) (.int 1)) (.cons (.ite (.cmp .gt (.ix (.var 1) (.int 2)) (.int 0)) (.bin .sub (.ix (.var 1) (.int 2)) (.int 1)) (.bin .add (.ix (.var 1) (.int 2)) (.int 1))) .nil))))) .skip) .skip) (.seq (.ifs (.cmp .eq (.ix (.var 1) (.int 0)) (.str "put")) (.seq (.ret (.tup (.cons (.str "put") (.cons (.bin .add (.ix (.var 1) (.int 1)) (.str "x")) (.cons (.ix (.var 1) (.int 2)) .nil))))) .skip) .skip) (.seq (.ret (.tup (.cons (.ix (.var 1) (.int 0)) (.cons (.bin .add (.ix (.var 1) (.int 1)) (.str "x")) .nil)))) .skip))))))
/-- _law_three_steps: d, step -/
def B_law_three_steps (law_any_step : Nat) (law_near_step : Nat) : S := (.seq (.asg 1 (.call law_any_step (.cons (.var 0) .nil))) (.seq (.ret (.lst (.cons (.var 1) (.cons (.call law_near_step (.cons (.var 0) (.cons (.var 1) .nil))) (.cons (.call law_any_step (.cons (.var 0) .nil)) .nil))))) .skip))
/-- _law_role_row: d, pool, more, liars, lying, honest, row, k, empty -/
def B_law_role_row (law_shuffled : Nat) (law_draw : Nat) (law_pick : Nat) : S := (.seq (.asg 3 (.call law_draw (.cons (.var 0) (.cons (.int 5) .nil)))) (.seq (.asg 4 (.call law_draw (.cons (.var 0) (.cons (.bin .add (.var 3) (.int 1)) .nil)))) (.seq (.asg 5 (.bin .add (.var 3) (.var 2))) (.seq (.asg 6 (.comp [("k", 7)] (.one 7) (.iRange (.var 5)) .nil (.ix (.var 1) (.int 0)))) (.seq (.for_ (.one 7) (.iRange (.var 4)) (.seq (.expr (.mth .append (.var 6) (.cons (.call law_pick (.cons (.var 0) (.cons (.lst (.cons (.ix (.var 1) (.int 1)) (.cons (.ix (.var 1) (.int 1)) (.cons (.ix (.var 1) (.int 2)) (.cons (.ix (.var 1) (.int 0)) (.cons .non .nil)))))) .nil))) .nil))) .skip)) (.seq (.asg 8 (.call law_draw (.cons (.var 0) (.cons (.bin .sub (.bin .sub (.int 10) (.var 5)) (.var 4)) .nil)))) (.seq (.ifs (.ands (.cons (.cmp .eq (.bin .add (.var 5) (.var 4)) (.int 0)) (.cons (.cmp .eq (.var 8) (.int 0)) .nil))) (.seq (.asg 8 (.int 1)) .skip) .skip) (.seq (.for_ (.one 7) (.iRange (.var 8)) (.seq (.expr (.mth .append (.var 6) (.cons .non .nil))) .skip)) (.seq (.ret (.tup (.cons (.var 3) (.cons (.call law_shuffled (.cons (.var 0) (.cons (.var 6) .nil))) .nil)))) .skip)))))))))
/-- _law_free_row: d, pool, row, k, others, one -/
def B_law_free_row (law_draw : Nat) (law_pick : Nat) : S := (.seq (.asg 2 (.lst .nil)) (.seq (.for_ (.one 3) (.iRange (.bin .add (.int 1) (.call law_draw (.cons (.var 0) (.cons (.int 9) .nil))))) (.seq (.expr (.mth .append (.var 2) (.cons (.call law_pick (.cons (.var 0) (.cons (.lst (.cons .non (.cons .non (.cons (.ix (.var 1) (.int 0)) (.cons (.ix (.var 1) (.int 0)) (.cons (.ix (.var 1) (.int 0)) (.cons (.ix (.var 1) (.int 1)) (.cons (.ix (.var 1) (.int 1)) (.cons (.ix (.var 1) (.int 2)) .nil))))))))) .nil))) .nil))) .skip)) (.seq (.ifs (.cmp .eq (.call law_draw (.cons (.var 0) (.cons (.int 3) .nil))) (.int 0)) (.seq (.ret (.tup (.cons (.call law_draw (.cons (.var 0) (.cons (.int 10) .nil))) (.cons (.var 2) .nil)))) .skip) .skip) (.seq (.asg 4 (.blt .len (.cons (.comp [("one", 5)] (.one 5) (.iSeq (.var 2)) (.ands (.cons (.notN (.var 5)) (.cons (.cmp .ne (.var 5) (.ix (.var 1) (.int 0))) .nil))) (.var 5)) .nil))) (.seq (.ret (.tup (.cons (.blt .min (.cons (.blt .max (.cons (.bin .sub (.bin .add (.var 4) (.call law_draw (.cons (.var 0) (.cons (.int 3) .nil)))) (.int 1)) (.cons (.int 0) .nil))) (.cons (.int 9) .nil))) (.cons (.var 2) .nil)))) .skip)))))
/-- a name of a law: short -/
def okN (x : Str) : Prop := okS x = true ∧ x.length ≤ 100
def Sp.sh : Sp → Prop
  | .ask r => okN r
  | .done => True
  | .see f => okN f
  | .put f _ => okN f
theorem Sp.sh.ok {s : Sp} (h : s.sh) : s.ok := by cases s <;> first | trivial | exact h.1
def NameC (C : CE) (f : Nat) : Prop := ∀ (M : Hm) (p : Addr × Addr) (r : Addr) (l : List Str) (Q : QU), Dr M p → r ≠ p.1 → M r = some (.lst (l.map U.str)) → l ≠ [] → l.length ≤ 100 → (∀ x ∈ l, okN x) → (∀ x M', okN x → Dr M' p → Fr p M M' → Q (.str x) M') → C f [.ref p.1, .ref r] M Q
theorem any_name_ok {C : CE} {fp fr : Nat} (hp : PickC C fp) (hr : RareC C fr) {nx bk ct : SU → Hm → Prop} {rt : QU} {M : Hm} {p : Addr × Addr} {r : Addr} {l : List Str} (d : Dr M p) (h1 : r ≠ p.1) (h2 : M r = some (.lst (l.map U.str))) (h3 : l ≠ []) (h4 : l.length ≤ 100) (h5 : ∀ x ∈ l, okN x)
    (hq : ∀ x M', okN x → Dr M' p → Fr p M M' → rt (.str x) M') : wS C (B_law_any_name fp fr) ⟨nx, rt, bk, ct⟩ (startU 2 [.ref p.1, .ref r]) M := by
  unfold B_law_any_name
  (repeat decreasing_trivial_pre_omega)
  refine hr M p 9 _ d (by decide) (by decide) fun b M1 d1 fr1 => ?_
  (repeat decreasing_trivial_pre_omega)
  cases b with
  | true =>
    (repeat decreasing_trivial_pre_omega)
    intro a ha
    (repeat decreasing_trivial_pre_omega)
    refine hp _ _ _ ((["else", "", "Ab", "ninechars", "a1", "done", "x y"] : List Str).map U.str) _ (d1.upd ha) (.inr ⟨a, rfl, d1.ne ha, um_same⟩) (by simp) (by simp) fun x M2 hx d2 fr2 => ?_
    rw [List.mem_map] at hx
    obtain ⟨x, hx, rfl⟩ := hx
    have ok : okS x = true ∧ x.length ≤ 100 := by revert x; decide +kernel
    exact hq x M2 ok d2 (fr1.trans ((Fr.upd (Fr.refl _ _) ha).trans fr2))
  | false =>
    (repeat decreasing_trivial_pre_omega)
    refine hp _ _ _ (l.map U.str) _ d1 (.inr ⟨r, rfl, h1, fr1.at_ h1 h2⟩) (by simpa using h3) (by rw [List.length_map]; omega) fun x M2 hx d2 fr2 => ?_
    rw [List.mem_map] at hx
    obtain ⟨x, hx, rfl⟩ := hx
    exact hq x M2 (h5 x hx) d2 (fr1.trans fr2)
/-- fresh names do not touch the draws -/
theorem names_dr {M M' : Hm} {p : Addr × Addr} {r : Addr} (d : Dr M p) (s : Sub M M') (h : M r = none) : Dr M' p ∧ r ≠ p.1 := ⟨d.sub s, d.ne h⟩
theorem any_step_ok {C : CE} {fn ff fr fp fd fu : Nat} (hn : NameC C fn) (hf : NamesC C ff okN) (hr : RareC C fr) (hp : PickC C fp) (hd : DrawC C fd) (hu : NamesC C fu okN) {nx bk ct : SU → Hm → Prop} {rt : QU} {M : Hm} {p : Addr × Addr} (d : Dr M p)
    (hq : ∀ (s : Sp) M', s.sh → Dr M' p → Fr p M M' → rt (encS s) M') : wS C (B_law_any_step fn ff fr fp fd fu) ⟨nx, rt, bk, ct⟩ (startU 3 [.ref p.1]) M := by
  unfold B_law_any_step
  (repeat decreasing_trivial_pre_omega)
  refine hd.lt M p 6 _ d (by decide) (by decide) fun r M1 hr1 d1 fr1 => ?_
  (repeat decreasing_trivial_pre_omega)
  by_cases h0 : ((r : Nat) : Int) = 0
  · (repeat decreasing_trivial_pre_omega)
    refine hu _ _ fun a l M2 s2 a2 e2 l1 l2 l3 => ?_
    obtain ⟨d2, n2⟩ := names_dr d1 s2 a2
    (repeat decreasing_trivial_pre_omega)
    refine hn _ _ _ l _ d2 n2 e2 l1 l2 l3 fun x M3 hx d3 fr3 => ?_
    (repeat decreasing_trivial_pre_omega)
    exact hq (.ask x) _ hx d3 ((fr1.trans s2.fr).trans fr3)
  (repeat decreasing_trivial_pre_omega)
  by_cases h1 : ((r : Nat) : Int) = 1
  · (repeat decreasing_trivial_pre_omega)
    exact hq .done _ trivial d1 fr1
  (repeat decreasing_trivial_pre_omega)
  by_cases h2 : ((r : Nat) : Int) < 4
  · (repeat decreasing_trivial_pre_omega)
    refine hf _ _ fun a l M2 s2 a2 e2 l1 l2 l3 => ?_
    obtain ⟨d2, n2⟩ := names_dr d1 s2 a2
    (repeat decreasing_trivial_pre_omega)
    refine hn _ _ _ l _ d2 n2 e2 l1 l2 l3 fun x M3 hx d3 fr3 => ?_
    (repeat decreasing_trivial_pre_omega)
    exact hq (.see x) _ hx d3 ((fr1.trans s2.fr).trans fr3)
  (repeat decreasing_trivial_pre_omega)
  refine hd.lt M1 p 4 _ d1 (by decide) (by decide) fun c M2 hc d2 fr2 => ?_
  (repeat decreasing_trivial_pre_omega)
  refine hr _ p 7 _ d2 (by decide) (by decide) fun b M3 d3 fr3 => ?_
  (repeat decreasing_trivial_pre_omega)
  have fin : ∀ (σ : SU) (c : Int) (M4 : Hm), σ[0]? = some (some (.ref p.1)) → σ[2]? = some (some (.int c)) → Dr M4 p → Fr p M M4 → wS C (.seq (.ret (.tup (.cons (.str "put") (.cons (.call fn (.cons (.var 0) (.cons (.call ff .nil) .nil))) (.cons (.var 2) .nil))))) .skip) ⟨nx, rt, bk, ct⟩ σ M4 := fun σ c M4 e0 e2 d4 fr4 => by
    (repeat decreasing_trivial_pre_omega)
    refine i_var e0 ?_
    (repeat decreasing_trivial_pre_omega)
    refine hf _ _ fun a l M5 s5 a5 e5 l1 l2 l3 => ?_
    obtain ⟨d5, n5⟩ := names_dr d4 s5 a5
    (repeat decreasing_trivial_pre_omega)
    refine hn _ _ _ l _ d5 n5 e5 l1 l2 l3 fun x M6 hx d6 fr6 => ?_
    (repeat decreasing_trivial_pre_omega)
    refine i_var e2 ?_
    (repeat decreasing_trivial_pre_omega)
    exact hq (.put x c) _ hx d6 ((fr4.trans s5.fr).trans fr6)
  cases b with
  | true =>
    (repeat decreasing_trivial_pre_omega)
    intro a ha
    (repeat decreasing_trivial_pre_omega)
    refine hp _ _ _ (([-1000, -1, 4, 1000] : List Int).map U.int) _ (d3.upd ha) (.inr ⟨a, rfl, d3.ne ha, um_same⟩) (by simp) (by simp) fun x M4 hx d4 fr4 => ?_
    rw [List.mem_map] at hx
    obtain ⟨x, hx, rfl⟩ := hx
    refine z_skip (fin _ x _ rfl rfl d4 (((fr1.trans fr2).trans fr3).trans ((Fr.upd (Fr.refl _ _) ha).trans fr4)))
  | false =>
    refine i_iff rfl (z_skip (fin _ c _ rfl rfl d3 ((fr1.trans fr2).trans fr3)))
def StepC' (C : CE) (f : Nat) : Prop := ∀ (M : Hm) (p : Addr × Addr) (Q : QU), Dr M p → (∀ (s : Sp) M', s.sh → Dr M' p → Fr p M M' → Q (encS s) M') → C f [.ref p.1] M Q
theorem okS_x {x : Str} (h : okN x) : okS (x ++ ("x" : Str)) = true := by
  have h1 := h.1
  unfold okS at h1 ⊢
  show ((x.cps ++ ("x" : Str).cps).all _) = true
  rw [Array.all_append, h1]
  decide +kernel
theorem len_x {x : Str} (h : okN x) : x.length + ("x" : Str).length ≤ LIM := by
  have h1 := h.2
  have h2 : ("x" : Str).length = 1 := by decide +kernel
  unfold LIM
  omega
theorem near_step_ok {C : CE} {fn fu fd : Nat} (hn : NameC C fn) (hu : NamesC C fu okN) (hd : DrawC C fd) {nx bk ct : SU → Hm → Prop} {rt : QU} {M : Hm} {p : Addr × Addr} {s : Sp} (d : Dr M p) (hs : s.sh)
    (hq : ∀ (s : Sp) M', s.ok → Dr M' p → Fr p M M' → rt (encS s) M') : wS C (B_law_near_step fn fu fd) ⟨nx, rt, bk, ct⟩ (startU 3 [.ref p.1, encS s]) M := by
  unfold B_law_near_step
  (repeat decreasing_trivial_pre_omega)
  refine hd.lt M p 3 _ d (by decide) (by decide) fun r M1 hr1 d1 fr1 => ?_
  cases s with
  | done =>
    simp only [encS]
    (repeat decreasing_trivial_pre_omega)
    refine hu _ _ fun a l M2 s2 a2 e2 l1 l2 l3 => ?_
    obtain ⟨d2, n2⟩ := names_dr d1 s2 a2
    (repeat decreasing_trivial_pre_omega)
    refine hn _ _ _ l _ d2 n2 e2 l1 l2 l3 fun x M3 hx d3 fr3 => ?_
    (repeat decreasing_trivial_pre_omega)
    exact hq (.ask x) _ hx.1 d3 ((fr1.trans s2.fr).trans fr3)
  | ask x =>
    have ox := okS_x hs
    have lx := len_x hs
    simp only [encS]
    (repeat decreasing_trivial_pre_omega)
    by_cases h0 : ((r : Nat) : Int) = 0
    · (repeat decreasing_trivial_pre_omega)
      exact hq (.see x) _ hs.1 d1 fr1
    · (repeat decreasing_trivial_pre_omega)
      refine o_addS lx ?_
      (repeat decreasing_trivial_pre_omega)
      exact hq (.ask (x ++ "x")) _ ox d1 fr1
  | see x =>
    have ox := okS_x hs
    have lx := len_x hs
    simp only [encS]
    (repeat decreasing_trivial_pre_omega)
    by_cases h0 : ((r : Nat) : Int) = 0
    · (repeat decreasing_trivial_pre_omega)
      exact hq (.ask x) _ hs.1 d1 fr1
    · (repeat decreasing_trivial_pre_omega)
      refine o_addS lx ?_
      (repeat decreasing_trivial_pre_omega)
      exact hq (.see (x ++ "x")) _ ox d1 fr1
  | put x c =>
    have ox := okS_x hs
    have lx := len_x hs
    simp only [encS]
    (repeat decreasing_trivial_pre_omega)
    by_cases h0 : ((r : Nat) : Int) = 0
    · (repeat decreasing_trivial_pre_omega)
      exact hq (.ask x) _ hs.1 d1 fr1
    · (repeat decreasing_trivial_pre_omega)
      by_cases h1 : ((r : Nat) : Int) = 1
      · (repeat decreasing_trivial_pre_omega)
        by_cases h2 : 0 < c
        · (repeat decreasing_trivial_pre_omega)
          exact hq (.put x (c - 1)) _ hs.1 d1 fr1
        · (repeat decreasing_trivial_pre_omega)
          exact hq (.put x (c + 1)) _ hs.1 d1 fr1
      · (repeat decreasing_trivial_pre_omega)
        refine o_addS lx ?_
        (repeat decreasing_trivial_pre_omega)
        exact hq (.put (x ++ "x") c) _ ox d1 fr1
def NearC (C : CE) (f : Nat) : Prop := ∀ (M : Hm) (p : Addr × Addr) (s : Sp) (Q : QU), Dr M p → s.sh → (∀ (s : Sp) M', s.ok → Dr M' p → Fr p M M' → Q (encS s) M') → C f [.ref p.1, encS s] M Q
theorem three_ok {C : CE} {fa fn : Nat} (ha : StepC' C fa) (hn : NearC C fn) {nx bk ct : SU → Hm → Prop} {rt : QU} {M : Hm} {p : Addr × Addr} (d : Dr M p)
    (hq : ∀ (a b c : Sp) (q : Addr) M', a.ok → b.ok → c.ok → Dr M' p → Fr p M M' → M q = none → q ≠ p.1 → M' q = some (.lst ([a, b, c].map encS)) → rt (.ref q) M') : wS C (B_law_three_steps fa fn) ⟨nx, rt, bk, ct⟩ (startU 2 [.ref p.1]) M := by
  unfold B_law_three_steps
  (repeat decreasing_trivial_pre_omega)
  refine ha _ _ _ d fun a M1 oa d1 fr1 => ?_
  (repeat decreasing_trivial_pre_omega)
  refine hn _ _ _ _ d1 oa fun b M2 ob d2 fr2 => ?_
  (repeat decreasing_trivial_pre_omega)
  refine ha _ _ _ d2 fun c M3 oc d3 fr3 => ?_
  (repeat decreasing_trivial_pre_omega)
  intro q hq0
  have nq := d3.ne hq0
  have FR := (fr1.trans fr2).trans fr3
  exact hq a b c q _ oa.ok ob oc.ok (d3.upd hq0) (FR.upd (FR.non nq hq0)) (FR.non nq hq0) nq um_same
end K69

set_option maxHeartbeats 400000
/-! k69: the law's rows -/
namespace K69
open PySem L2 Pl
theorem perm_map_inv {α β : Type} {f : α → β} {ws vs : List β} (h : ws.Perm vs) : ∀ {l : List α}, vs = l.map f → ∃ l' : List α, l'.Perm l ∧ ws = l'.map f := by
  induction h with
  | nil =>
    intro l e
    cases l with
    | nil => exact ⟨[], .refl _, rfl⟩
    | cons _ _ => cases e
  | cons x h ih =>
    intro l e
    cases l with
    | nil => cases e
    | cons y l =>
      rw [List.map_cons, List.cons.injEq] at e
      obtain ⟨l', h1, h2⟩ := ih e.2
      exact ⟨y :: l', h1.cons y, by rw [List.map_cons, e.1, h2]⟩
  | swap x y l =>
    intro l0 e
    match l0, e with
    | a :: b :: l0, e =>
      simp only [List.map_cons, List.cons.injEq] at e
      exact ⟨b :: a :: l0, .swap _ _ _, by rw [List.map_cons, List.map_cons, ← e.1, ← e.2.1, e.2.2]⟩
  | trans h1 h2 ih1 ih2 =>
    intro l e
    obtain ⟨l2, p2, e2⟩ := ih2 e
    obtain ⟨l1, p1, e1⟩ := ih1 e2
    exact ⟨l1, p1.trans p2, e1⟩
def good (a : Sp) (o : Option Sp) : Bool := decide (o = some a)
def badb (a : Sp) (o : Option Sp) : Bool := bad a (some o)
/-- a row that a law draws: how many it holds -/
def RowOk (ans : List (Option Sp)) (L : Nat) : Prop := ans.length ≤ 9 ∧ L ≤ 9 ∧ okA ans
def ShufC (C : CE) (f : Nat) : Prop := ∀ (M : Hm) (p : Addr × Addr) (r : Addr) (us : List U) (Q : QU), Dr M p → M r = some (.lst us) → us.length < 100000 →
  (∀ (q : Addr) (ws : List U) M', ws.Perm us → Dr M' p → Fr p M M' → q ≠ p.1 → q ≠ p.2 → M q = none → M' q = some (.lst ws) → Q (.ref q) M') → C f [.ref p.1, .ref r] M Q
theorem encA_none : encA none = .non := rfl
theorem role_ok {C : CE} {fs fd fp : Nat} (hsh : ShufC C fs) (hp : PickC C fp) (hd : DrawC C fd) {nx bk ct : SU → Hm → Prop} {rt : QU} {M : Hm} {p : Addr × Addr} {r : Addr} {a b c : Sp} {more : Nat} (d : Dr M p) (hr : r ≠ p.1) (hm : M r = some (.lst ([a, b, c].map encS))) (oa : a.ok) (ob : b.ok) (oc : c.ok) (hmore : more ≤ 1)
    (hq : ∀ (L : Nat) (q : Addr) (ans : List (Option Sp)) M', RowOk ans L → L + more ≤ ans.countP (good a) → ans.countP (badb a) ≤ L → Dr M' p → Fr p M M' → q ≠ p.1 → M q = none → M' q = some (.lst (ans.map encA)) → rt (.tup [.int L, .ref q]) M') :
    wS C (B_law_role_row fs fd fp) ⟨nx, rt, bk, ct⟩ (startU 9 [.ref p.1, .ref r, .int more]) M := by
  unfold B_law_role_row
  (repeat decreasing_trivial_pre_omega)
  refine hd.lt M p 5 _ d (by decide) (by decide) fun L M1 hL d1 fr1 => ?_
  (repeat decreasing_trivial_pre_omega)
  rw [show ((L : Nat) : Int) + 1 = ((L + 1 : Nat) : Int) by omega]
  refine hd.lt M1 p (L + 1) _ d1 (by omega) (by omega) fun ly M2 hly d2 fr2 => ?_
  have hm2 := (fr1.trans fr2).at_ hr hm
  (repeat decreasing_trivial_pre_omega)
  rw [show ((L : Nat) : Int) + ((more : Nat) : Int) = ((L + more : Nat) : Int) by omega]
  refine ⟨by unfold LIM; omega, by unfold LIM; omega, ?_⟩
  rw [rngU_nat]
  refine compL_by (enc := fun i : Nat => U.int (i : Nat)) (fun don rest acc M' => M' = M2 ∧ acc = (List.replicate don.length (some a)).map encA) (List.range (L + more)) ⟨rfl, rfl⟩ ?_ ?_
  · intro don i rest acc M' k e ⟨e1, e2⟩ hk
    subst e1 e2
    have hlen : don.length < 9 := by
      have : don.length + rest.length + 1 = L + more := by rw [← List.length_range (n := L + more), ← e]; simp; omega
      omega
    (repeat decreasing_trivial_pre_omega)
    refine hk _ _ trivial (fun _ => by simp [LIM]; omega) ⟨rfl, ?_⟩
    rw [List.length_append, List.length_singleton, List.replicate_succ', List.map_append]
    rfl
  intro acc M' ⟨e1, e2⟩
  subst e1 e2
  rw [List.length_range]
  intro x hx
  have nx1 := d2.ne hx
  have nx2 := d2.ne2 hx
  have FR2 := fr1.trans fr2
  have hMx : M x = none := FR2.non nx1 hx
  have rx : r ≠ x := ne_of_old hm2 hx
  (repeat decreasing_trivial_pre_omega)
  refine ⟨by unfold LIM; omega, by unfold LIM; omega, ?_⟩
  rw [rngU_nat]
  refine forL_by (enc := fun i : Nat => U.int (i : Nat)) (fun don rest σ M3 => ∃ (u7 : Option U) (lies : List (Option Sp)), σ = [some (.ref p.1), some (.ref r), some (.int more), some (.int L), some (.int ly), some (.int (L + more : Nat)), some (.ref x), u7, none] ∧ lies.length = don.length ∧ okA lies ∧ Dr M3 p ∧ Fr p M M3 ∧ M3 x = some (.lst ((List.replicate (L + more) (some a) ++ lies).map encA))) (List.range ly)
    ⟨_, [], rfl, rfl, (by intro s hs; cases hs), d2.upd hx, FR2.upd hMx, by rw [um_same, List.append_nil]⟩ ?_ ?_
  · intro don i rest σ M3 k e ⟨u7, lies, e1, e2, e3, d3, fr3, e4⟩ hk
    subst e1
    have hlen : don.length < 5 := by
      have : don.length + rest.length + 1 = ly := by rw [← List.length_range (n := ly), ← e]; simp; omega
      omega
    have hm3 := fr3.at_ hr hm
    (repeat decreasing_trivial_pre_omega)
    intro y hy
    (repeat decreasing_trivial_pre_omega)
    have e5 : um M3 y (.lst [encS b, encS b, encS c, encS a, .non]) = um M3 y (.lst ([some b, some b, some c, some a, none].map encA)) := rfl
    refine hp _ _ _ ([some b, some b, some c, some a, none].map encA) _ (d3.upd hy) (.inr ⟨y, rfl, d3.ne hy, um_same⟩) (by simp) (by simp) fun u M4 hu d4 fr4 => ?_
    rw [List.mem_map] at hu
    obtain ⟨o, ho, rfl⟩ := hu
    have xy : x ≠ y := ne_of_old e4 hy
    have e4' := fr4.at_ nx1 (um_old e4 hy)
    (repeat decreasing_trivial_pre_omega)
    refine m_app e4' (by simp [LIM]; omega) ?_
    (repeat decreasing_trivial_pre_omega)
    refine hk _ _ trivial ⟨_, lies ++ [o], rfl, by simp; omega, ?_, d4.upd2 nx1 nx2, (fr3.trans ((Fr.upd (Fr.refl _ _) hy).trans fr4)).upd hMx, ?_⟩
    · intro s hs
      rcases List.mem_append.mp hs with hs | hs
      · exact e3 s hs
      · rw [List.mem_singleton] at hs
        subst hs
        simp at ho
        rcases ho with rfl | rfl | rfl
        · exact ob
        · exact oc
        · exact oa
    · rw [um_same, ← List.append_assoc, List.map_append (l₂ := [o])]
      rfl
  intro σ M3 ⟨u7, lies, e1, e2, e3, d3, fr3, e4⟩
  subst e1
  rw [List.length_range] at e2
  (repeat decreasing_trivial_pre_omega)
  rw [show (10 : Int) - ((L + more : Nat) : Int) - ((ly : Nat) : Int) = ((10 - (L + more) - ly : Nat) : Int) by omega]
  refine hd.lt M3 p (10 - (L + more) - ly) _ d3 (by omega) (by omega) fun em M4 hem d4 fr4 => ?_
  have FR4 := fr3.trans fr4
  have e4' := fr4.at_ nx1 e4
  have fin : ∀ (em' : Nat) (u8 : Option U), L + more + ly + em' ≤ 9 → wS C (.seq (.for_ (.one 7) (.iRange (.var 8)) (.seq (.expr (.mth .append (.var 6) (.cons .non .nil))) .skip)) (.seq (.ret (.tup (.cons (.var 3) (.cons (.call fs (.cons (.var 0) (.cons (.var 6) .nil))) .nil)))) .skip)) ⟨nx, rt, bk, ct⟩ [some (.ref p.1), some (.ref r), some (.int more), some (.int L), some (.int ly), some (.int (L + more : Nat)), some (.ref x), u7, some (.int em')] M4 := fun em' u8 hem' => by
    (repeat decreasing_trivial_pre_omega)
    refine ⟨by unfold LIM; omega, by unfold LIM; omega, ?_⟩
    rw [rngU_nat]
    refine forL_by (enc := fun i : Nat => U.int (i : Nat)) (fun don rest σ M5 => ∃ u7, σ = [some (.ref p.1), some (.ref r), some (.int more), some (.int L), some (.int ly), some (.int (L + more : Nat)), some (.ref x), u7, some (.int em')] ∧ Dr M5 p ∧ Fr p M M5 ∧ M5 x = some (.lst ((List.replicate (L + more) (some a) ++ lies ++ List.replicate don.length none).map encA))) (List.range em')
      ⟨_, rfl, d4, FR4, by rw [List.length_nil, List.replicate_zero, List.append_nil]; exact e4'⟩ ?_ ?_
    · intro don i rest σ M5 k e ⟨u7, e1, d5, fr5, e5⟩ hk
      subst e1
      have hlen : don.length < 10 := by
        have : don.length + rest.length + 1 = em' := by rw [← List.length_range (n := em'), ← e]; simp; omega
        omega
      (repeat decreasing_trivial_pre_omega)
      refine m_app e5 (by simp [LIM]; omega) ?_
      (repeat decreasing_trivial_pre_omega)
      refine hk _ _ trivial ⟨_, rfl, d5.upd2 nx1 nx2, fr5.upd hMx, ?_⟩
      rw [um_same, List.length_append, List.length_singleton, List.replicate_succ', ← List.append_assoc, List.map_append (l₂ := [none])]
      rfl
    · intro σ M5 ⟨u7, e1, d5, fr5, e5⟩
      subst e1
      rw [List.length_range] at e5
      (repeat decreasing_trivial_pre_omega)
      refine hsh _ _ _ _ _ d5 e5 (by simp; omega) fun q ws M6 hws d6 fr6 nq1 nq2 hM5 hq6 => ?_
      obtain ⟨ans, hperm, rfl⟩ := perm_map_inv hws rfl
      (repeat decreasing_trivial_pre_omega)
      have hnd : L < 5 := hL
      have hok : okA ans := fun s hs => by
        have h1 := hperm.mem_iff.mp hs
        rw [List.mem_append, List.mem_append] at h1
        rcases h1 with (h1 | h1) | h1
        · rw [List.mem_replicate] at h1
          have := h1.2
          cases this
          exact oa
        · exact e3 s h1
        · rw [List.mem_replicate] at h1
          cases h1.2
      have hln : ans.length ≤ 9 := by
        rw [hperm.length_eq]
        simp
        omega
      refine hq L q ans M6 ⟨hln, by omega, hok⟩ ?_ ?_ d6 (fr5.trans fr6) nq1 (fr5.non nq1 hM5) hq6
      · rw [hperm.countP_eq, List.countP_append, List.countP_append]
        have : (List.replicate (L + more) (some a)).countP (good a) = L + more := by
          rw [List.countP_replicate]
          simp [good]
        omega
      · rw [hperm.countP_eq, List.countP_append, List.countP_append]
        have h1 : (List.replicate (L + more) (some a)).countP (badb a) = 0 := by
          rw [List.countP_replicate]
          simp [badb, bad]
        have h2 : (List.replicate em' (none : Option Sp)).countP (badb a) = 0 := by
          rw [List.countP_replicate]
          simp [badb, bad]
        have h3 := List.countP_le_length (p := badb a) (l := lies)
        omega
  (repeat decreasing_trivial_pre_omega)
  by_cases h0 : (((L + more : Nat) : Int) + ((ly : Nat) : Int)) = 0
  · (repeat decreasing_trivial_pre_omega)
    by_cases h1 : ((em : Nat) : Int) = 0
    · refine i_ifdt h1 ?_
      refine z_seq (z_asg (i_int (z_skip ?_)))
      exact fin 1 none (by omega)
    · refine i_ifdf h1 (z_skip ?_)
      exact fin em none (by omega)
  · refine i_ifdf h0 ?_
    refine i_iff rfl (z_skip ?_)
    exact fin em none (by omega)
end K69

set_option maxHeartbeats 400000
/-! k69: free rows, ways -/
namespace K69
open PySem L2 Pl
/-- _law_ways: answers, liars, found, number, size, said, k -/
def B_law_ways : S := (.seq (.asg 2 (.lst .nil)) (.seq (.for_ (.one 3) (.iRange (.bin .shl (.int 1) (.blt .len (.cons (.var 0) .nil)))) (.seq (.asg 4 (.int 0)) (.seq (.asg 5 (.lst .nil)) (.seq (.for_ (.one 6) (.iRange (.blt .len (.cons (.var 0) .nil))) (.seq (.ifs (.cmp .eq (.bin .band (.blt .int (.cons (.bin .shr (.var 3) (.var 6)) .nil)) (.int 1)) (.int 1)) (.seq (.augV 4 .add (.int 1)) .skip) (.seq (.ifs (.ands (.cons (.notN (.ix (.var 0) (.var 6))) (.cons (.cmp .notin (.ix (.var 0) (.var 6)) (.var 5)) .nil))) (.seq (.expr (.mth .append (.var 5) (.cons (.ix (.var 0) (.var 6)) .nil))) .skip) .skip) .skip)) .skip)) (.seq (.ifs (.ands (.cons (.cmp .le (.var 4) (.var 1)) (.cons (.cmp .lt (.blt .len (.cons (.var 5) .nil)) (.int 2)) .nil))) (.seq (.expr (.mth .append (.var 2) (.cons (.tup (.cons (.var 3) (.cons (.var 5) .nil))) .nil))) .skip) .skip) .skip))))) (.seq (.ret (.var 2)) .skip)))
theorem free_ok {C : CE} {fd fp : Nat} (hp : PickC C fp) (hd : DrawC C fd) {nx bk ct : SU → Hm → Prop} {rt : QU} {M : Hm} {p : Addr × Addr} {r : Addr} {a b c : Sp} (d : Dr M p) (hr : r ≠ p.1) (hm : M r = some (.lst ([a, b, c].map encS))) (oa : a.ok) (ob : b.ok) (oc : c.ok)
    (hq : ∀ (L : Nat) (q : Addr) (ans : List (Option Sp)) M', RowOk ans L → Dr M' p → Fr p M M' → q ≠ p.1 → M q = none → M' q = some (.lst (ans.map encA)) → rt (.tup [.int L, .ref q]) M') :
    wS C (B_law_free_row fd fp) ⟨nx, rt, bk, ct⟩ (startU 6 [.ref p.1, .ref r]) M := by
  unfold B_law_free_row
  (repeat decreasing_trivial_pre_omega)
  intro x hx
  have nx1 := d.ne hx
  have nx2 := d.ne2 hx
  have rx : r ≠ x := ne_of_old hm hx
  (repeat decreasing_trivial_pre_omega)
  have dx := d.upd (o := .lst []) hx
  refine hd.lt _ p 9 _ dx (by decide) (by decide) fun n M1 hn d1 fr1 => ?_
  have FR1 : Fr p M M1 := (Fr.upd (Fr.refl _ _) hx).trans fr1
  (repeat decreasing_trivial_pre_omega)
  refine ⟨by unfold LIM; omega, by unfold LIM; omega, ?_⟩
  rw [show (1 : Int) + ((n : Nat) : Int) = ((1 + n : Nat) : Int) by omega, rngU_nat]
  refine forL_by (enc := fun i : Nat => U.int (i : Nat)) (fun don rest σ M3 => ∃ (u3 : Option U) (ans : List (Option Sp)), σ = [some (.ref p.1), some (.ref r), some (.ref x), u3, none, none] ∧ ans.length = don.length ∧ okA ans ∧ Dr M3 p ∧ Fr p M M3 ∧ M3 x = some (.lst (ans.map encA))) (List.range (1 + n))
    ⟨_, [], rfl, rfl, (by intro s hs; cases hs), d1, FR1, fr1.at_ nx1 um_same⟩ ?_ ?_
  · intro don i rest σ M3 k e ⟨u7, ans, e1, e2, e3, d3, fr3, e4⟩ hk
    subst e1
    have hlen : don.length < 10 := by
      have : don.length + rest.length + 1 = 1 + n := by rw [← List.length_range (n := 1 + n), ← e]; simp; omega
      omega
    have hm3 := fr3.at_ hr hm
    (repeat decreasing_trivial_pre_omega)
    intro y hy
    (repeat decreasing_trivial_pre_omega)
    refine hp _ _ _ ([none, none, some a, some a, some a, some b, some b, some c].map encA) _ (d3.upd hy) (.inr ⟨y, rfl, d3.ne hy, um_same⟩) (by simp) (by simp) fun u M4 hu d4 fr4 => ?_
    rw [List.mem_map] at hu
    obtain ⟨o, ho, rfl⟩ := hu
    have e4' := fr4.at_ nx1 (um_old e4 hy)
    (repeat decreasing_trivial_pre_omega)
    refine m_app e4' (by simp [LIM]; omega) ?_
    (repeat decreasing_trivial_pre_omega)
    refine hk _ _ trivial ⟨_, ans ++ [o], rfl, by simp; omega, ?_, d4.upd2 nx1 nx2, (fr3.trans ((Fr.upd (Fr.refl _ _) hy).trans fr4)).upd hx, ?_⟩
    · intro s hs
      rcases List.mem_append.mp hs with hs | hs
      · exact e3 s hs
      · rw [List.mem_singleton] at hs
        subst hs
        simp at ho
        rcases ho with rfl | rfl | rfl
        · exact oa
        · exact ob
        · exact oc
    · rw [um_same, List.map_append]
      rfl
  intro σ M3 ⟨u7, ans, e1, e2, e3, d3, fr3, e4⟩
  subst e1
  rw [List.length_range] at e2
  have hm3 := fr3.at_ hr hm
  (repeat decreasing_trivial_pre_omega)
  refine hd.lt M3 p 3 _ d3 (by decide) (by decide) fun w M4 hw d4 fr4 => ?_
  have e4' := fr4.at_ nx1 e4
  have hm4 := fr4.at_ hr hm3
  have fr4' := fr3.trans fr4
  (repeat decreasing_trivial_pre_omega)
  by_cases h0 : ((w : Nat) : Int) = 0
  · (repeat decreasing_trivial_pre_omega)
    refine hd.lt M4 p 10 _ d4 (by decide) (by decide) fun L M5 hL d5 fr5 => ?_
    (repeat decreasing_trivial_pre_omega)
    exact hq L x ans M5 ⟨by omega, by omega, e3⟩ d5 (fr4'.trans fr5) nx1 hx (fr5.at_ nx1 e4')
  (repeat decreasing_trivial_pre_omega)
  refine compL_by (enc := encA) (fun don rest acc M' => M' = M4 ∧ acc.length ≤ don.length) ans ⟨rfl, Nat.le_refl _⟩ ?_ ?_
  · intro don o rest acc M' k e ⟨e5, e6⟩ hk
    subst e5
    have hlen : don.length + rest.length + 1 = ans.length := by rw [← e]; simp; omega
    cases o with
    | none =>
      simp only [encA]
      (repeat decreasing_trivial_pre_omega)
      exact hk _ _ e4' (fun h => by cases h) ⟨rfl, by simp; omega⟩
    | some s =>
      have hs : s.ok := e3 s (by rw [← e]; simp)
      have hne := encS_ne s
      simp only [encA]
      (repeat decreasing_trivial_pre_omega)
      refine eq_sp hs oa ?_
      by_cases h : s = a
      · (repeat decreasing_trivial_pre_omega)
        exact hk _ _ e4' (fun h => by cases h) ⟨rfl, by simp; omega⟩
      · (repeat decreasing_trivial_pre_omega)
        exact hk _ _ e4' (fun _ => by unfold LIM; omega) ⟨rfl, by simp; omega⟩
  intro acc M' ⟨e5, e6⟩
  subst e5
  intro z hz
  (repeat decreasing_trivial_pre_omega)
  refine hd.lt _ p 3 _ (d4.upd hz) (by decide) (by decide) fun w2 M5 hw2 d5 fr5 => ?_
  have xz : x ≠ z := ne_of_old e4' hz
  (repeat decreasing_trivial_pre_omega)
  obtain ⟨L, hL, hL9⟩ : ∃ L : Nat, (if (9 : Int) < (if (0 : Int) > ((acc.length : Nat) : Int) + ((w2 : Nat) : Int) - 1 then 0 else ((acc.length : Nat) : Int) + ((w2 : Nat) : Int) - 1) then 9 else (if (0 : Int) > ((acc.length : Nat) : Int) + ((w2 : Nat) : Int) - 1 then 0 else ((acc.length : Nat) : Int) + ((w2 : Nat) : Int) - 1)) = (L : Int) ∧ L ≤ 9 := by
    refine ⟨(if (9 : Int) < (if (0 : Int) > ((acc.length : Nat) : Int) + ((w2 : Nat) : Int) - 1 then 0 else ((acc.length : Nat) : Int) + ((w2 : Nat) : Int) - 1) then 9 else (if (0 : Int) > ((acc.length : Nat) : Int) + ((w2 : Nat) : Int) - 1 then 0 else ((acc.length : Nat) : Int) + ((w2 : Nat) : Int) - 1)).toNat, ?_, ?_⟩
    · split <;> split <;> omega
    · split <;> split <;> omega
  rw [hL]
  have := hq L x ans M5 ⟨by omega, hL9, e3⟩ d5 (fr4'.trans ((Fr.upd (Fr.refl _ _) hz).trans fr5)) nx1 hx (fr5.at_ nx1 (um_old e4' hz))
  exact this
theorem o_shrN {Q : QU} {M : Hm} {x k : Nat} (q : Q (.int (x / 2 ^ k : Nat)) M) : binW .shr (.int x) (.int k) M Q := by
  refine ⟨by omega, ?_⟩
  rw [Int.toNat_natCast]
  have e : ((x : Nat) : Int) / 2 ^ k = ((x / 2 ^ k : Nat) : Int) := by push_cast; rfl
  rw [e]
  exact q
theorem o_band1 {Q : QU} {M : Hm} {y : Nat} (q : Q (.int (y % 2 : Nat)) M) : binW .band (.int y) (.int 1) M Q := by
  show Q (.int (Builtin.bitAnd (y : Int) ((1 : Nat) : Int))) M
  have e : Builtin.bitAnd (y : Int) ((1 : Nat) : Int) = ((y &&& 1 : Nat) : Int) := rfl
  rw [e, Nat.and_one_is_mod]
  exact q
theorem bit_dec (x k : Nat) : decide (((x / 2 ^ k % 2 : Nat) : Int) = 1) = x.testBit k := by
  rw [Nat.testBit_eq_decide_div_mod_eq]
  by_cases h : x / 2 ^ k % 2 = 1
  · rw [decide_eq_true h, h]; rfl
  · rw [decide_eq_false h, decide_eq_false (by omega)]
def saidN (ans : List (Option Sp)) (x : Nat) : Nat → List Sp
  | 0 => []
  | k + 1 => if x.testBit k = true then saidN ans x k else match ans[k]? with
    | some (some a) => if a ∈ saidN ans x k then saidN ans x k else saidN ans x k ++ [a]
    | _ => saidN ans x k
def sizeN (x : Nat) : Nat → Nat
  | 0 => 0
  | k + 1 => sizeN x k + if x.testBit k = true then 1 else 0
def wayOf (ans : List (Option Sp)) (L x : Nat) : Option (Nat × List Sp) := if sizeN x ans.length ≤ L ∧ (saidN ans x ans.length).length < 2 then some (x, saidN ans x ans.length) else none
def waysM (ans : List (Option Sp)) (L : Nat) : List (Nat × List Sp) := (List.range (2 ^ ans.length)).filterMap (wayOf ans L)
theorem saidN_len (ans : List (Option Sp)) (x : Nat) : ∀ k, (saidN ans x k).length ≤ k
  | 0 => Nat.le_refl _
  | k + 1 => by
    have ih := saidN_len ans x k
    unfold saidN
    split
    · omega
    · split
      · split
        · omega
        · rw [List.length_append]; simp; omega
      · omega
theorem saidN_mem {ans : List (Option Sp)} {x : Nat} {s : Sp} : ∀ {k}, s ∈ saidN ans x k → some s ∈ ans
  | 0, h => by cases h
  | k + 1, h => by
    unfold saidN at h
    split at h
    · exact saidN_mem h
    · split at h
      · rename_i a ha
        split at h
        · exact saidN_mem h
        · rcases List.mem_append.mp h with h | h
          · exact saidN_mem h
          · rw [List.mem_singleton] at h; subst h; exact List.mem_of_getElem? ha
      · exact saidN_mem h
/-- the ways as they lie -/
def WaysAt (M : Hm) (r : Addr) (ws : List (Nat × List Sp)) : Prop := ∃ W : List (Nat × Addr × List Sp), W.map (fun w => (w.1, w.2.2)) = ws ∧ M r = some (.lst (W.map fun w => .tup [.int (w.1 : Nat), .ref w.2.1])) ∧ ∀ w ∈ W, w.2.1 ≠ r ∧ M w.2.1 = some (.lst (w.2.2.map encS))
end K69

set_option maxHeartbeats 400000
/-! k69: the law's own reading -/
namespace K69
open PySem L2 Pl
/-- _law_due_possible: ways, found, way -/
def B_law_due_possible : S := (.seq (.asg 1 (.lst .nil)) (.seq (.for_ (.one 2) (.iSeq (.var 0)) (.seq (.ifs (.cmp .eq (.blt .len (.cons (.ix (.var 2) (.int 1)) .nil)) (.int 0)) (.seq (.ret .non) .skip) .skip) (.seq (.ifs (.cmp .notin (.ix (.ix (.var 2) (.int 1)) (.int 0)) (.var 1)) (.seq (.expr (.mth .append (.var 1) (.cons (.ix (.ix (.var 2) (.int 1)) (.int 0)) .nil))) .skip) .skip) .skip))) (.seq (.ret (.blt .tuple (.cons (.blt .sorted (.cons (.var 1) .nil)) .nil))) .skip)))
/-- _law_due_trusted: steps -/
def B_law_due_trusted : S := (.seq (.ifs (.ors (.cons (.isN (.var 0)) (.cons (.cmp .gt (.blt .len (.cons (.var 0) .nil)) (.int 1)) .nil))) (.seq (.ret (.tup (.cons (.str "open") .nil))) .skip) .skip) (.seq (.ifs (.cmp .eq (.blt .len (.cons (.var 0) .nil)) (.int 0)) (.seq (.ret (.tup (.cons (.str "none") .nil))) .skip) .skip) (.seq (.ret (.tup (.cons (.str "sure") (.cons (.ix (.var 0) (.int 0)) .nil)))) .skip)))
/-- _law_due_lies: many, ways, step, common, way, k -/
def B_law_due_lies : S := (.seq (.asg 3 (.neg (.int 1))) (.seq (.for_ (.one 4) (.iSeq (.var 1)) (.seq (.ifs (.ors (.cons (.cmp .eq (.blt .len (.cons (.ix (.var 4) (.int 1)) .nil)) (.int 0)) (.cons (.cmp .eq (.ix (.ix (.var 4) (.int 1)) (.int 0)) (.var 2)) .nil))) (.seq (.asg 3 (.bin .band (.var 3) (.ix (.var 4) (.int 0)))) .skip) .skip) .skip)) (.seq (.ifs (.cmp .eq (.var 3) (.neg (.int 1))) (.seq (.ret .non) .skip) .skip) (.seq (.ret (.blt .tuple (.cons (.comp [("k", 5)] (.one 5) (.iRange (.var 0)) (.cmp .eq (.bin .band (.blt .int (.cons (.bin .shr (.var 3) (.var 5)) .nil)) (.int 1)) (.int 1)) (.var 5)) .nil))) .skip))))
theorem ways_ok {C : CE} {nx bk ct : SU → Hm → Prop} {rt : QU} {M : Hm} {ans : List (Option Sp)} {L : Nat} (hl : ans.length ≤ 9) (ho : okA ans) (hq : ∀ r M', Sub M M' → WaysAt M' r (waysM ans L) → rt (.ref r) M') :
    wS C B_law_ways ⟨nx, rt, bk, ct⟩ (startU 7 [.tup (ans.map encA), .int L]) M := by
  unfold B_law_ways
  (repeat decreasing_trivial_pre_omega)
  intro fo hfo
  (repeat decreasing_trivial_pre_omega)
  have e2n : (1 : Int) * 2 ^ (((ans.map encA).length : Nat) : Int).toNat = ((2 ^ ans.length : Nat) : Int) := by
    rw [Int.toNat_natCast, List.length_map]; push_cast; omega
  have h512 : 2 ^ ans.length ≤ 512 := Nat.le_trans (Nat.pow_le_pow_right (by decide) hl) (by decide)
  refine o_shl ⟨by omega, by rw [List.length_map]; omega, by decide⟩ ?_
  rw [e2n]
  (repeat decreasing_trivial_pre_omega)
  have hnn : -((LIM : Nat) : Int) ≤ ((2 ^ ans.length : Nat) : Int) := Int.le_trans (by decide) (Int.natCast_nonneg _)
  refine ⟨by unfold LIM; omega, hnn, ?_⟩
  rw [rngU_nat]
  refine forL_by (enc := fun i : Nat => U.int (i : Nat)) (fun don rest σ M' => ∃ (u3 u4 u5 u6 : Option U) (W : List (Nat × Addr × List Sp)), σ = [some (.tup (ans.map encA)), some (.int L), some (.ref fo), u3, u4, u5, u6] ∧ W.map (fun w => (w.1, w.2.2)) = don.filterMap (wayOf ans L) ∧ Sub M M' ∧
      M' fo = some (.lst (W.map fun w => .tup [.int (w.1 : Nat), .ref w.2.1])) ∧ ∀ w ∈ W, w.2.1 ≠ fo ∧ M' w.2.1 = some (.lst (w.2.2.map encS))) (List.range (2 ^ ans.length))
    ⟨_, _, _, _, [], rfl, rfl, sub_new (Sub.refl _) hfo, um_same, (by intro w hw; cases hw)⟩ ?_ ?_
  · intro don x rest σ M1 k e ⟨u3, u4, u5, u6, W, e1, e2, s1, e3, e4⟩ hk
    subst e1
    have hx : x = don.length := by
      have h1 : (List.range (2 ^ ans.length))[don.length]? = some x := by rw [← e]; simp
      rw [List.getElem?_range (by
        have : don.length + rest.length + 1 = 2 ^ ans.length := by rw [← List.length_range (n := 2 ^ ans.length), ← e]; simp; omega
        omega)] at h1
      exact (Option.some.inj h1).symm
    have hdl : don.length < 512 := by
      have : don.length + rest.length + 1 = 2 ^ ans.length := by rw [← List.length_range (n := 2 ^ ans.length), ← e]; simp; omega
      omega
    have hWl : W.length ≤ don.length := by
      have h1 := congrArg List.length e2
      rw [List.length_map] at h1
      rw [h1]
      exact List.length_filterMap_le _ _
    (repeat decreasing_trivial_pre_omega)
    intro sd hsd
    have nfo : fo ≠ sd := ne_of_old e3 hsd
    (repeat decreasing_trivial_pre_omega)
    refine ⟨by rw [List.length_map]; unfold LIM; omega, by rw [List.length_map]; unfold LIM; omega, ?_⟩
    rw [List.length_map, rngU_nat]
    refine forL_by (enc := fun i : Nat => U.int (i : Nat)) (fun don2 rest2 σ M2 => ∃ (u6 : Option U), σ = [some (.tup (ans.map encA)), some (.int L), some (.ref fo), some (.int x), some (.int (sizeN x don2.length : Nat)), some (.ref sd), u6] ∧ (∀ a, a ≠ sd → ∀ o, M1 a = some o → M2 a = some o) ∧ M2 sd = some (.lst ((saidN ans x don2.length).map encS))) (List.range ans.length)
      ⟨_, rfl, fun a n o h => by rw [um_ne n]; exact h, um_same⟩ ?_ ?_
    · intro don2 j rest2 σ M2 k2 e' ⟨v6, f1, f2, f3⟩ hk2
      subst f1
      have hjl : don2.length < ans.length := by
        have : don2.length + rest2.length + 1 = ans.length := by rw [← List.length_range (n := ans.length), ← e']; simp; omega
        omega
      have hj : j = don2.length := by
        have h1 : (List.range ans.length)[don2.length]? = some j := by rw [← e']; simp
        rw [List.getElem?_range hjl] at h1
        exact (Option.some.inj h1).symm
      subst hj
      have hat : atI (ans.map encA) ((don2.length : Nat) : Int) = some (encA ans[don2.length]) := by
        rw [atI_nat (by rw [List.length_map]; exact hjl), List.getElem_map]
      have hs1 : ans[don2.length]? = some ans[don2.length] := List.getElem?_eq_getElem hjl
      have hln : (don2 ++ [don2.length]).length = don2.length + 1 := by simp
      have hsz : sizeN x (don2.length + 1) = sizeN x don2.length + if x.testBit don2.length = true then 1 else 0 := rfl
      (repeat decreasing_trivial_pre_omega)
      refine o_shrN ?_
      (repeat decreasing_trivial_pre_omega)
      refine o_band1 ?_
      (repeat decreasing_trivial_pre_omega)
      rw [bit_dec]
      cases hb : x.testBit don2.length with
      | true =>
        have hsd' : saidN ans x (don2.length + 1) = saidN ans x don2.length := if_pos hb
        rw [if_pos hb] at hsz
        (repeat decreasing_trivial_pre_omega)
        refine hk2 _ _ trivial ⟨some (.int (don2.length : Nat)), ?_, f2, by rw [hln, hsd']; exact f3⟩
        rw [hln, hsz]
        simp
      | false =>
        have hnb : ¬ x.testBit don2.length = true := by rw [hb]; decide
        rw [if_neg hnb] at hsz
        (repeat decreasing_trivial_pre_omega)
        have hsd' : saidN ans x (don2.length + 1) = match ans[don2.length]? with
            | some (some a) => if a ∈ saidN ans x don2.length then saidN ans x don2.length else saidN ans x don2.length ++ [a]
            | _ => saidN ans x don2.length := if_neg hnb
        rw [hs1] at hsd'
        cases ha : ans[don2.length] with
        | none =>
          rw [ha] at hsd' hat
          simp only at hsd'
          simp only [encA] at hat
          refine x_tup hat ?_
          (repeat decreasing_trivial_pre_omega)
          refine hk2 _ _ trivial ⟨some (.int (don2.length : Nat)), ?_, f2, by rw [hln, hsd']; exact f3⟩
          rw [hln, hsz]
          simp
        | some a =>
          rw [ha] at hsd' hat
          simp only at hsd'
          have hne := encS_ne a
          have hoa : a.ok := ho a (by rw [← ha]; exact List.getElem_mem hjl)
          have hokl : okL ((saidN ans x don2.length).map encS) = true := okL_of fun u hu => by
            rw [List.mem_map] at hu
            obtain ⟨b, hb', rfl⟩ := hu
            exact encS_ok (ho b (saidN_mem hb')) 59 (by decide)
          have hmem : (encS a ∈ (saidN ans x don2.length).map encS) ↔ a ∈ saidN ans x don2.length := by
            rw [List.mem_map]
            constructor
            · rintro ⟨b, hb', eb⟩
              rw [← encS_inj eb]
              exact hb'
            · intro h; exact ⟨a, h, rfl⟩
          have hsl := saidN_len ans x don2.length
          simp only [encA] at hat
          refine x_tup hat ?_
          (repeat decreasing_trivial_pre_omega)
          refine x_tup hat ?_
          (repeat decreasing_trivial_pre_omega)
          refine nin_lst f3 (encS_ok hoa 60 (by decide)) hokl ?_
          by_cases hm : encS a ∈ (saidN ans x don2.length).map encS
          · rw [if_pos (hmem.mp hm)] at hsd'
            (repeat decreasing_trivial_pre_omega)
            refine hk2 _ _ trivial ⟨some (.int (don2.length : Nat)), ?_, f2, by rw [hln, hsd']; exact f3⟩
            rw [hln, hsz]
            simp
          · rw [if_neg (fun z => hm (hmem.mpr z))] at hsd'
            (repeat decreasing_trivial_pre_omega)
            refine x_tup hat ?_
            (repeat decreasing_trivial_pre_omega)
            refine m_app f3 (by rw [List.length_map]; unfold LIM; omega) ?_
            (repeat decreasing_trivial_pre_omega)
            refine hk2 _ _ trivial ⟨some (.int (don2.length : Nat)), ?_, fun a n o h => by rw [um_ne n]; exact f2 a n o h, by rw [um_same, hln, hsd', List.map_append]; rfl⟩
            rw [hln, hsz]
            simp
    · intro σ M2 ⟨v6, f1, f2, f3⟩
      subst f1
      rw [List.length_range] at *
      have e3' := f2 _ nfo _ e3
      have s2 : Sub M M2 := fun a o h => f2 a (ne_of_old (s1 _ _ h) hsd) o (s1 _ _ h)
      have hw4 : ∀ w ∈ W, w.2.1 ≠ fo ∧ M2 w.2.1 = some (.lst (w.2.2.map encS)) := fun w hw => ⟨(e4 w hw).1, f2 _ (ne_of_old (e4 w hw).2 hsd) _ (e4 w hw).2⟩
      have hsnoc : (don ++ [x]).filterMap (wayOf ans L) = don.filterMap (wayOf ans L) ++ (wayOf ans L x).toList := by
        rw [List.filterMap_append]
        cases h : wayOf ans L x <;> simp [h]
      have no : wayOf ans L x = none → k [some (.tup (ans.map encA)), some (.int L), some (.ref fo), some (.int x), some (.int (sizeN x ans.length : Nat)), some (.ref sd), v6] M2 := fun h => by
        refine hk _ _ trivial ⟨_, _, _, _, W, rfl, ?_, s2, e3', hw4⟩
        rw [hsnoc, h, e2]
        simp
      (repeat decreasing_trivial_pre_omega)
      by_cases h1 : ((sizeN x ans.length : Nat) : Int) ≤ (L : Int)
      · (repeat decreasing_trivial_pre_omega)
        by_cases h2 : ((((saidN ans x ans.length).map encS).length : Nat) : Int) < 2
        · (repeat decreasing_trivial_pre_omega)
          refine m_app e3' (by rw [List.length_map]; unfold LIM; omega) ?_
          (repeat decreasing_trivial_pre_omega)
          have hy : wayOf ans L x = some (x, saidN ans x ans.length) := by
            unfold wayOf
            rw [if_pos ⟨by omega, by rw [List.length_map] at h2; omega⟩]
          refine hk _ _ trivial ⟨_, _, _, _, W ++ [(x, sd, saidN ans x ans.length)], rfl, ?_, fun a o h => ?_, ?_, ?_⟩
          · rw [hsnoc, hy, List.map_append, e2]
            rfl
          · have hne : a ≠ fo := ne_of_old h hfo
            rw [um_ne hne]
            exact s2 a o h
          · rw [um_same, List.map_append]
            rfl
          · intro w hw
            rcases List.mem_append.mp hw with hw | hw
            · have := hw4 w hw
              exact ⟨this.1, by rw [um_ne this.1]; exact this.2⟩
            · rw [List.mem_singleton] at hw
              subst hw
              exact ⟨nfo.symm, by rw [um_ne nfo.symm]; exact f3⟩
        · (repeat decreasing_trivial_pre_omega)
          refine no ?_
          unfold wayOf
          rw [if_neg (fun z => h2 (by rw [List.length_map]; omega))]
      · (repeat decreasing_trivial_pre_omega)
        refine no ?_
        unfold wayOf
        rw [if_neg (fun z => h1 (by omega))]
  · intro σ M' ⟨u3, u4, u5, u6, W, e1, e2, s1, e3, e4⟩
    subst e1
    (repeat decreasing_trivial_pre_omega)
    exact hq fo M' s1 ⟨W, e2, e3, e4⟩
end K69

set_option maxHeartbeats 400000
/-! k69: what is due -/
namespace K69
open PySem L2 Pl
/-- _law_same: told, due, k -/
def B_law_same (law_same : Nat) : S := (.seq (.ifs (.isinst (.var 1) "tuple") (.seq (.ifs (.ors (.cons (.not (.isinst (.var 0) "tuple")) (.cons (.cmp .ne (.blt .len (.cons (.var 0) .nil)) (.blt .len (.cons (.var 1) .nil))) .nil))) (.seq (.ret (.bl false)) .skip) .skip) (.seq (.for_ (.one 2) (.iRange (.blt .len (.cons (.var 1) .nil))) (.seq (.ifs (.not (.call law_same (.cons (.ix (.var 0) (.var 2)) (.cons (.ix (.var 1) (.var 2)) .nil)))) (.seq (.ret (.bl false)) .skip) .skip) .skip)) (.seq (.ret (.bl true)) .skip))) .skip) (.seq (.ifs (.isN (.var 1)) (.seq (.ret (.isN (.var 0))) .skip) .skip) (.seq (.ifs (.isinst (.var 1) "str") (.seq (.ret (.ands (.cons (.isinst (.var 0) "str") (.cons (.cmp .eq (.var 0) (.var 1)) .nil)))) .skip) .skip) (.seq (.ret (.ands (.cons (.isinst (.var 0) "int") (.cons (.not (.isinst (.var 0) "bool")) (.cons (.cmp .eq (.var 0) (.var 1)) .nil))))) .skip))))
def duePf (o : Option (List Sp)) (w : Nat × List Sp) : Option (List Sp) := o.bind fun acc => match w.2 with | [] => none | s :: _ => some (if s ∈ acc then acc else acc ++ [s])
def dueP (ws : List (Nat × List Sp)) : Option (List Sp) := ws.foldl duePf (some [])
theorem dueP_snoc (ws : List (Nat × List Sp)) (w : Nat × List Sp) : dueP (ws ++ [w]) = duePf (dueP ws) w := by
  unfold dueP
  rw [List.foldl_append]
  rfl
theorem dueP_none {ws vs : List (Nat × List Sp)} (h : dueP ws = none) : dueP (ws ++ vs) = none := by
  induction vs using snocs with
  | h0 => rw [List.append_nil]; exact h
  | h1 l x ih => rw [← List.append_assoc, dueP_snoc, ih]; rfl
def dueU (ws : List (Nat × List Sp)) : U := match dueP ws with
  | none => .non
  | some l => .tup (sortU (l.map encS))
def WaysOk (ws : List (Nat × List Sp)) : Prop := ws.length ≤ 512 ∧ ∀ w ∈ ws, ∀ s ∈ w.2, s.ok
theorem dueP_ok {ws : List (Nat × List Sp)} (h : ∀ w ∈ ws, ∀ s ∈ w.2, s.ok) : ∀ l, dueP ws = some l → l.length ≤ ws.length ∧ ∀ s ∈ l, s.ok := by
  induction ws using snocs with
  | h0 => intro l e; cases e; exact ⟨Nat.le_refl _, by intro s hs; cases hs⟩
  | h1 ws w ih =>
    intro l e
    rw [dueP_snoc] at e
    unfold duePf at e
    cases q : dueP ws with
    | none => rw [q] at e; cases e
    | some acc =>
      obtain ⟨i1, i2⟩ := ih (fun v hv => h v (List.mem_append_left _ hv)) acc q
      rw [q] at e
      simp only [Option.bind_some] at e
      split at e
      · cases e
      · rename_i s t hw
        have e := Option.some.inj e
        subst e
        rw [List.length_append, List.length_singleton]
        split
        · exact ⟨by omega, i2⟩
        · refine ⟨by rw [List.length_append]; simp; omega, fun s' hs' => ?_⟩
          rcases List.mem_append.mp hs' with hs' | hs'
          · exact i2 s' hs'
          · rw [List.mem_singleton] at hs'
            subst hs'
            exact h w (List.mem_append_right _ (List.mem_singleton.mpr rfl)) _ (by rw [hw]; exact List.mem_cons_self)
theorem atI_0 {α : Type} {x : α} {l : List α} : atI (x :: l) 0 = some x := by
  have := atI_nat (l := x :: l) (i := 0) (by simp)
  exact this
theorem due_possible_ok {C : CE} {nx bk ct : SU → Hm → Prop} {rt : QU} {M : Hm} {r : Addr} {ws : List (Nat × List Sp)} (hw : WaysAt M r ws) (hk : WaysOk ws) (hq : ∀ M', Sub M M' → rt (dueU ws) M') :
    wS C B_law_due_possible ⟨nx, rt, bk, ct⟩ (startU 3 [.ref r]) M := by
  obtain ⟨W, hW, hr, hall⟩ := hw
  have hWl : W.length = ws.length := by rw [← hW, List.length_map]
  unfold B_law_due_possible
  (repeat decreasing_trivial_pre_omega)
  intro fo hfo
  have nr : r ≠ fo := ne_of_old hr hfo
  (repeat decreasing_trivial_pre_omega)
  refine forL_by (enc := fun w : Nat × Addr × List Sp => U.tup [.int (w.1 : Nat), .ref w.2.1]) (fun don rest σ M' => ∃ (u2 : Option U) (acc : List Sp), σ = [some (.ref r), some (.ref fo), u2] ∧ dueP (don.map fun w => (w.1, w.2.2)) = some acc ∧ M' = um M fo (.lst (acc.map encS))) W ⟨_, [], rfl, rfl, rfl⟩ ?_ ?_
  · intro don w rest σ M' k e ⟨u2, acc, e1, e2, e3⟩ hk'
    subst e1 e3
    have hwm : w ∈ W := by rw [← e]; simp
    obtain ⟨n1, hw1⟩ := hall w hwm
    have hws : (w.1, w.2.2) ∈ ws := by rw [← hW]; exact List.mem_map_of_mem hwm
    have nw : w.2.1 ≠ fo := ne_of_old hw1 hfo
    have hdon : ∀ v ∈ don.map (fun w => (w.1, w.2.2)), ∀ s ∈ v.2, s.ok := fun v hv s hs => by
      refine hk.2 v ?_ s hs
      rw [← hW, ← e, List.map_append]
      exact List.mem_append_left _ hv
    obtain ⟨a1, a2⟩ := dueP_ok hdon acc e2
    have hdl : don.length ≤ 512 := by
      have h1 : don.length + rest.length + 1 = W.length := by rw [← e]; simp; omega
      have := hk.1
      omega
    have hsn := dueP_snoc (don.map fun w => (w.1, w.2.2)) (w.1, w.2.2)
    rw [e2] at hsn
    have hmap : (don ++ [w]).map (fun w : Nat × Addr × List Sp => (w.1, w.2.2)) = don.map (fun w => (w.1, w.2.2)) ++ [(w.1, w.2.2)] := by rw [List.map_append]; rfl
    have hw2 : um M fo (.lst (acc.map encS)) w.2.1 = some (.lst (w.2.2.map encS)) := um_old hw1 hfo
    have g : ∀ l, um M fo (.lst l) r = some (.lst (W.map fun w => .tup [.int (w.1 : Nat), .ref w.2.1])) := fun l => um_old hr hfo
    (repeat decreasing_trivial_pre_omega)
    cases hsd : w.2.2 with
    | nil =>
      rw [hsd] at hw2 hsn
      (repeat decreasing_trivial_pre_omega)
      have hnone : dueP ws = none := by
        have h1 : dueP ((don ++ [w]).map fun w => (w.1, w.2.2)) = none := by rw [hmap, hsd, hsn]; rfl
        have h2 := dueP_none (vs := rest.map fun w => (w.1, w.2.2)) h1
        rw [← List.map_append, List.append_assoc, List.singleton_append, e, hW] at h2
        exact h2
      have := hq (um M fo (.lst (acc.map encS))) (sub_new (Sub.refl _) hfo)
      unfold dueU at this
      rw [hnone] at this
      exact this
    | cons s t =>
      rw [hsd] at hw2 hsn
      have hso : s.ok := hk.2 _ hws s (by rw [hsd]; exact List.mem_cons_self)
      refine i_ifdf (by simp; omega) ?_
      (repeat decreasing_trivial_pre_omega)
      refine x_lst hw2 (atI_0 (x := encS s)) ?_
      (repeat decreasing_trivial_pre_omega)
      have hokl : okL (acc.map encS) = true := okL_of fun u hu => by
        rw [List.mem_map] at hu
        obtain ⟨b, hb', rfl⟩ := hu
        exact encS_ok (a2 b hb') 59 (by decide)
      have hmem : (encS s ∈ acc.map encS) ↔ s ∈ acc := by
        rw [List.mem_map]
        constructor
        · rintro ⟨b, hb', eb⟩
          rw [← encS_inj eb]
          exact hb'
        · intro h; exact ⟨s, h, rfl⟩
      refine nin_lst um_same (encS_ok hso 60 (by decide)) hokl ?_
      have hsn2 : dueP ((don ++ [w]).map fun w => (w.1, w.2.2)) = some (if s ∈ acc then acc else acc ++ [s]) := by rw [hmap, hsd, hsn]; rfl
      by_cases hm : encS s ∈ acc.map encS
      · rw [if_pos (hmem.mp hm)] at hsn2
        (repeat decreasing_trivial_pre_omega)
        exact hk' _ _ (g _) ⟨_, acc, rfl, hsn2, rfl⟩
      · rw [if_neg (fun z => hm (hmem.mpr z))] at hsn2
        (repeat decreasing_trivial_pre_omega)
        refine x_lst hw2 (atI_0 (x := encS s)) ?_
        (repeat decreasing_trivial_pre_omega)
        have hal : (acc.map encS).length < LIM := by
          rw [List.length_map] at a1 ⊢
          unfold LIM
          omega
        refine m_app um_same hal ?_
        (repeat decreasing_trivial_pre_omega)
        rw [um_um]
        exact hk' _ _ (g _) ⟨_, acc ++ [s], rfl, hsn2, by rw [List.map_append]; rfl⟩
  · intro σ M' ⟨u2, acc, e1, e2, e3⟩
    subst e1 e3
    rw [hW] at e2
    obtain ⟨a1, a2⟩ := dueP_ok hk.2 acc e2
    have okk : sortOk (acc.map encS) := sortOk_sp a2 (by have := hk.1; unfold LIM; omega)
    (repeat decreasing_trivial_pre_omega)
    refine f_sortL um_same okk ?_
    intro q hq0
    (repeat decreasing_trivial_pre_omega)
    have := hq (um (um M fo (.lst (acc.map encS))) q (.lst (sortU (acc.map encS)))) (sub_new (sub_new (Sub.refl _) hfo) hq0)
    unfold dueU at this
    rw [e2] at this
    exact this
theorem due_trusted_ok {C : CE} {nx bk ct : SU → Hm → Prop} {rt : QU} {M : Hm} {u : U} (hshape : u = .non ∨ ∃ l, u = .tup l) (hq : rt (trustU u) M) :
    wS C B_law_due_trusted ⟨nx, rt, bk, ct⟩ (startU 1 [u]) M := by
  unfold B_law_due_trusted
  rcases hshape with rfl | ⟨l, rfl⟩
  · (repeat decreasing_trivial_pre_omega)
    exact hq
  · match l, hq with
    | [], hq =>
      (repeat decreasing_trivial_pre_omega)
      exact hq
    | [x], hq =>
      (repeat decreasing_trivial_pre_omega)
      exact hq
    | x :: y :: l, hq =>
      have h1 : (1 : Int) < (((x :: y :: l).length : Nat) : Int) := by simp; omega
      (repeat decreasing_trivial_pre_omega)
      exact hq
def lieF (s : Sp) (o : Option Nat) (w : Nat × List Sp) : Option Nat := if w.2 = [] ∨ w.2.head? = some s then some (match o with | none => w.1 | some c => c &&& w.1) else o
def lieM (s : Sp) (ws : List (Nat × List Sp)) : Option Nat := ws.foldl (lieF s) none
theorem lieM_snoc (s : Sp) (ws : List (Nat × List Sp)) (w : Nat × List Sp) : lieM s (ws ++ [w]) = lieF s (lieM s ws) w := by
  unfold lieM
  rw [List.foldl_append]
  rfl
def comI : Option Nat → Int
  | none => -1
  | some c => c
def dueLU (n : Nat) (ws : List (Nat × List Sp)) (s : Sp) : U := match lieM s ws with
  | none => .non
  | some c => .tup (((List.range n).filter fun k => c.testBit k).map natU)
theorem o_bandC {Q : QU} {M : Hm} {o : Option Nat} {x : Nat} (q : Q (.int (comI (some (match o with | none => x | some c => c &&& x)))) M) : binW .band (.int (comI o)) (.int x) M Q := by
  show Q (.int (Builtin.bitAnd (comI o) (x : Int))) M
  cases o with
  | some c => exact q
  | none =>
    have e : Builtin.bitAnd (-1) (x : Int) = (x : Int) := by
      show (x : Int) - ((x &&& (Builtin.bitNot (-1)).toNat : Nat) : Int) = x
      rw [show (Builtin.bitNot (-1)).toNat = 0 from by decide +kernel, Nat.and_zero]
      omega
    rw [show comI none = -1 from rfl, e]
    exact q
theorem due_lies_ok {C : CE} {nx bk ct : SU → Hm → Prop} {rt : QU} {M : Hm} {r : Addr} {ws : List (Nat × List Sp)} {n : Nat} {s : Sp} (hn : n ≤ 9) (hs : s.ok) (hw : WaysAt M r ws) (hk : WaysOk ws) (hq : ∀ M', Sub M M' → rt (dueLU n ws s) M') :
    wS C B_law_due_lies ⟨nx, rt, bk, ct⟩ (startU 6 [.int n, .ref r, encS s]) M := by
  obtain ⟨W, hW, hr, hall⟩ := hw
  unfold B_law_due_lies
  (repeat decreasing_trivial_pre_omega)
  refine forL_by (enc := fun w : Nat × Addr × List Sp => U.tup [.int (w.1 : Nat), .ref w.2.1]) (fun don rest σ M' => ∃ (u4 : Option U), σ = [some (.int n), some (.ref r), some (encS s), some (.int (comI (lieM s (don.map fun w => (w.1, w.2.2))))), u4, none] ∧ M' = M) W ⟨_, rfl, rfl⟩ ?_ ?_
  · intro don w rest σ M' k e ⟨u4, e1, e3⟩ hk'
    subst e1 e3
    have hwm : w ∈ W := by rw [← e]; simp
    obtain ⟨n1, hw1⟩ := hall w hwm
    have hws : (w.1, w.2.2) ∈ ws := by rw [← hW]; exact List.mem_map_of_mem hwm
    have hsn := lieM_snoc s (don.map fun w => (w.1, w.2.2)) (w.1, w.2.2)
    have hmap : (don ++ [w]).map (fun w : Nat × Addr × List Sp => (w.1, w.2.2)) = don.map (fun w => (w.1, w.2.2)) ++ [(w.1, w.2.2)] := by rw [List.map_append]; rfl
    rw [← hmap] at hsn
    (repeat decreasing_trivial_pre_omega)
    cases hsd : w.2.2 with
    | nil =>
      rw [hsd] at hw1
      have hsn2 : lieM s ((don ++ [w]).map fun w => (w.1, w.2.2)) = some (match lieM s (don.map fun w => (w.1, w.2.2)) with | none => w.1 | some c => c &&& w.1) := by
        rw [hsn]
        unfold lieF
        rw [if_pos (.inl hsd)]
      (repeat decreasing_trivial_pre_omega)
      refine o_bandC ?_
      rw [← hsn2]
      (repeat decreasing_trivial_pre_omega)
      exact hk' _ _ hr ⟨_, rfl, rfl⟩
    | cons t l =>
      rw [hsd] at hw1
      have hto : t.ok := hk.2 _ hws t (by rw [hsd]; exact List.mem_cons_self)
      refine i_ifdf (by simp; omega) ?_
      (repeat decreasing_trivial_pre_omega)
      refine x_lst hw1 (atI_0 (x := encS t)) ?_
      (repeat decreasing_trivial_pre_omega)
      refine eq_sp hto hs ?_
      by_cases h : t = s
      · have hsn2 : lieM s ((don ++ [w]).map fun w => (w.1, w.2.2)) = some (match lieM s (don.map fun w => (w.1, w.2.2)) with | none => w.1 | some c => c &&& w.1) := by
          rw [hsn]
          unfold lieF
          rw [if_pos (.inr (by show w.2.2.head? = _; rw [hsd, h]; rfl))]
        (repeat decreasing_trivial_pre_omega)
        refine o_bandC ?_
        rw [← hsn2]
        (repeat decreasing_trivial_pre_omega)
        exact hk' _ _ hr ⟨_, rfl, rfl⟩
      · have hsn2 : lieM s ((don ++ [w]).map fun w => (w.1, w.2.2)) = lieM s (don.map fun w => (w.1, w.2.2)) := by
          rw [hsn]
          unfold lieF
          rw [if_neg (fun z => by
            rcases z with z | z
            · have z : w.2.2 = [] := z
              rw [hsd] at z
              cases z
            · have z : w.2.2.head? = some s := z
              rw [hsd] at z
              exact h (Option.some.inj z))]
        (repeat decreasing_trivial_pre_omega)
        exact hk' _ _ hr ⟨_, by rw [hsn2]; rfl, rfl⟩
  · intro σ M' ⟨u4, e1, e3⟩
    subst e1 e3
    rw [hW]
    have hq' := hq
    unfold dueLU at hq'
    (repeat decreasing_trivial_pre_omega)
    cases hc : lieM s ws with
    | none =>
      rw [hc] at hq'
      refine i_ifdt rfl ?_
      (repeat decreasing_trivial_pre_omega)
      exact hq' _ (Sub.refl _)
    | some c =>
      rw [hc] at hq'
      refine i_ifdf (fun z => by have z : ((c : Nat) : Int) = -1 := z; omega) ?_
      (repeat decreasing_trivial_pre_omega)
      refine ⟨by unfold LIM; omega, by unfold LIM; omega, ?_⟩
      rw [rngU_nat]
      refine compL_by (enc := fun i : Nat => U.int (i : Nat)) (fun don rest acc M2 => M2 = M' ∧ acc = (((List.range don.length).filter fun k => c.testBit k).map natU)) (List.range n) ⟨rfl, rfl⟩ ?_ ?_
      · intro don j rest acc M2 k e ⟨f1, f2⟩ hk2
        subst f1 f2
        have hjl : don.length < n := by
          have : don.length + rest.length + 1 = n := by rw [← List.length_range (n := n), ← e]; simp; omega
          omega
        have hj : j = don.length := by
          have h1 : (List.range n)[don.length]? = some j := by rw [← e]; simp
          rw [List.getElem?_range hjl] at h1
          exact (Option.some.inj h1).symm
        subst hj
        have hsn : ((List.range (don ++ [don.length]).length).filter fun k => c.testBit k) = ((List.range don.length).filter fun k => c.testBit k) ++ if c.testBit don.length = true then [don.length] else [] := by
          rw [List.length_append, List.length_singleton, List.range_succ, List.filter_append, List.filter_cons]
          rfl
        have hfl : (((List.range don.length).filter fun k => c.testBit k).map natU).length < LIM := by
          rw [List.length_map]
          have := List.length_filter_le (fun k => c.testBit k) (List.range don.length)
          rw [List.length_range] at this
          unfold LIM
          omega
        (repeat decreasing_trivial_pre_omega)
        refine o_shrN ?_
        (repeat decreasing_trivial_pre_omega)
        refine o_band1 ?_
        (repeat decreasing_trivial_pre_omega)
        rw [bit_dec]
        cases hb : c.testBit don.length with
        | true =>
          (repeat decreasing_trivial_pre_omega)
          refine hk2 _ _ trivial (fun _ => hfl) ⟨rfl, ?_⟩
          rw [hsn, hb, if_pos rfl, List.map_append]
          rfl
        | false =>
          (repeat decreasing_trivial_pre_omega)
          refine hk2 _ _ trivial (fun h => by cases h) ⟨rfl, ?_⟩
          rw [hsn, hb]
          simp
      · intro acc M2 ⟨f1, f2⟩
        subst f1 f2
        rw [List.length_range]
        intro q hq0
        (repeat decreasing_trivial_pre_omega)
        exact hq' _ (sub_new (Sub.refl _) hq0)
end K69

set_option maxHeartbeats 400000
/-! k69: the law in plain numbers -/
namespace K69
open PySem L2 Pl
/-! numbers with given bits -/
def maskN (P : Nat → Bool) : Nat → Nat
  | 0 => 0
  | n + 1 => maskN P n ||| if P n = true then 2 ^ n else 0
theorem maskN_lt (P : Nat → Bool) : ∀ n, maskN P n < 2 ^ n
  | 0 => Nat.one_pos
  | n + 1 => by
    have ih := maskN_lt P n
    have h1 : 2 ^ n < 2 ^ (n + 1) := Nat.pow_lt_pow_right (by decide) (Nat.lt_succ_self n)
    unfold maskN
    refine Nat.or_lt_two_pow (Nat.lt_trans ih h1) ?_
    split
    · exact h1
    · exact Nat.two_pow_pos _
theorem maskN_bit (P : Nat → Bool) : ∀ n k, k < n → (maskN P n).testBit k = P k
  | 0, k, h => absurd h (Nat.not_lt_zero k)
  | n + 1, k, h => by
    unfold maskN
    rw [Nat.testBit_or]
    by_cases e : k = n
    · subst e
      rw [Nat.testBit_lt_two_pow (maskN_lt P k), Bool.false_or]
      cases q : P k with
      | true => rw [if_pos rfl, Nat.testBit_two_pow]; simp
      | false => rw [if_neg (by decide)]; simp
    · rw [maskN_bit P n k (by omega)]
      split
      · rw [Nat.testBit_two_pow, decide_eq_false (fun z => e z.symm), Bool.or_false]
      · simp
theorem sizeN_eq (x : Nat) : ∀ n, sizeN x n = ((List.range n).filter fun k => x.testBit k).length
  | 0 => rfl
  | n + 1 => by
    show sizeN x n + _ = _
    rw [sizeN_eq x n, List.range_succ, List.filter_append, List.length_append, List.filter_cons]
    split <;> simp
theorem sizeN_le {x n : Nat} {P : Nat → Bool} (h : ∀ k, k < n → P k = true → x.testBit k = true) : ((List.range n).filter P).length ≤ sizeN x n := by
  rw [sizeN_eq, ← List.countP_eq_length_filter, ← List.countP_eq_length_filter]
  exact List.countP_mono_left fun k hk => h k (List.mem_range.mp hk)
theorem sizeN_mask (P : Nat → Bool) (n : Nat) : sizeN (maskN P n) n = ((List.range n).filter P).length := by
  rw [sizeN_eq]
  congr 1
  refine List.filter_congr fun k hk => ?_
  rw [maskN_bit P n k (List.mem_range.mp hk)]
/-! what is said outside -/
theorem saidN_iff {ans : List (Option Sp)} {x : Nat} {s : Sp} : ∀ {n}, s ∈ saidN ans x n ↔ ∃ k, k < n ∧ x.testBit k = false ∧ ans[k]? = some (some s)
  | 0 => by simp [saidN]
  | n + 1 => by
    have ih := @saidN_iff ans x s n
    unfold saidN
    constructor
    · intro h
      split at h
      · obtain ⟨k, h1, h2⟩ := ih.mp h
        exact ⟨k, by omega, h2⟩
      · rename_i hb
        split at h
        · rename_i a ha
          split at h
          · obtain ⟨k, h1, h2⟩ := ih.mp h
            exact ⟨k, by omega, h2⟩
          · rcases List.mem_append.mp h with h | h
            · obtain ⟨k, h1, h2⟩ := ih.mp h
              exact ⟨k, by omega, h2⟩
            · rw [List.mem_singleton] at h
              subst h
              exact ⟨n, by omega, by simpa using hb, ha⟩
        · obtain ⟨k, h1, h2⟩ := ih.mp h
          exact ⟨k, by omega, h2⟩
    · rintro ⟨k, h1, h2, h3⟩
      by_cases e : k = n
      · subst e
        rw [if_neg (by rw [h2]; decide), h3]
        simp only
        split
        · assumption
        · exact List.mem_append_right _ (List.mem_singleton.mpr rfl)
      · have hm := ih.mpr ⟨k, by omega, h2, h3⟩
        split
        · exact hm
        · split
          · split
            · exact hm
            · exact List.mem_append_left _ hm
          · exact hm
theorem saidN_nodup (ans : List (Option Sp)) (x : Nat) : ∀ n, (saidN ans x n).Nodup
  | 0 => List.nodup_nil
  | n + 1 => by
    have ih := saidN_nodup ans x n
    unfold saidN
    split
    · exact ih
    · split
      · split
        · exact ih
        · rename_i h
          rw [List.nodup_append]
          exact ⟨ih, by simp, fun a ha b hb e => by rw [List.mem_singleton] at hb; subst hb; subst e; exact h ha⟩
      · exact ih
theorem len_lt2 {l : List Sp} (hn : l.Nodup) {s : Sp} (h : ∀ t ∈ l, t = s) : l.length < 2 := by
  match l, hn, h with
  | [], _, _ => decide
  | [_], _, _ => exact Nat.lt_succ_self 1
  | a :: b :: l, hn, h =>
    have h1 := h a List.mem_cons_self
    have h2 := h b (List.mem_cons_of_mem _ List.mem_cons_self)
    rw [List.nodup_cons] at hn
    exact absurd (by rw [h1, h2]; exact List.mem_cons_self) hn.1
theorem mem_ways {ans : List (Option Sp)} {L : Nat} {w : Nat × List Sp} : w ∈ waysM ans L ↔ w.1 < 2 ^ ans.length ∧ sizeN w.1 ans.length ≤ L ∧ w.2 = saidN ans w.1 ans.length ∧ w.2.length < 2 := by
  unfold waysM
  rw [List.mem_filterMap]
  constructor
  · rintro ⟨x, hx, e⟩
    unfold wayOf at e
    split at e
    · rename_i h
      have e := Option.some.inj e
      subst e
      exact ⟨List.mem_range.mp hx, h.1, rfl, h.2⟩
    · cases e
  · rintro ⟨h1, h2, h3, h4⟩
    refine ⟨w.1, List.mem_range.mpr h1, ?_⟩
    unfold wayOf
    rw [if_pos ⟨h2, by rw [← h3]; exact h4⟩, ← h3]
theorem waysOk {ans : List (Option Sp)} {L : Nat} (hl : ans.length ≤ 9) (ho : okA ans) : WaysOk (waysM ans L) := by
  refine ⟨?_, fun w hw s hs => ?_⟩
  · have h1 := List.length_filterMap_le (wayOf ans L) (List.range (2 ^ ans.length))
    rw [List.length_range] at h1
    exact Nat.le_trans h1 (Nat.le_trans (Nat.pow_le_pow_right (by decide) hl) (by decide))
  · obtain ⟨_, _, e, _⟩ := mem_ways.mp hw
    rw [e] at hs
    exact ho s (saidN_mem hs)
/-- a way that tells s, or nothing: its number holds every place of another answer -/
def rel (s : Sp) (w : Nat × List Sp) : Prop := w.2 = [] ∨ w.2.head? = some s
theorem bad_iff {ans : List (Option Sp)} {s : Sp} {k : Nat} : bad s ans[k]? = true ↔ ∃ t, ans[k]? = some (some t) ∧ t ≠ s := by
  unfold bad
  split
  · rename_i a h
    rw [h]
    simp
  · rename_i h
    constructor
    · intro z; cases z
    · rintro ⟨t, e, _⟩
      exact absurd e (h t)
theorem rel_iff {ans : List (Option Sp)} {L : Nat} {w : Nat × List Sp} (hw : w ∈ waysM ans L) (s : Sp) : rel s w ↔ ∀ k, k < ans.length → bad s ans[k]? = true → w.1.testBit k = true := by
  obtain ⟨h1, h2, h3, h4⟩ := mem_ways.mp hw
  constructor
  · intro h k hk hb
    cases q : w.1.testBit k with
    | true => rfl
    | false =>
      obtain ⟨t, ht, hne⟩ := bad_iff.mp hb
      have hm : t ∈ w.2 := by rw [h3]; exact saidN_iff.mpr ⟨k, hk, q, ht⟩
      rcases h with h | h
      · rw [h] at hm; cases hm
      · match e : w.2, h4, h, hm with
        | [a], _, h, hm =>
          rw [List.mem_singleton] at hm
          exact absurd (hm.trans (Option.some.inj h)) hne
  · intro h
    have hall : ∀ t ∈ w.2, t = s := fun t ht => by
      rw [h3] at ht
      obtain ⟨k, hk, hb, hk2⟩ := saidN_iff.mp ht
      by_cases e : t = s
      · exact e
      · have := h k hk (bad_iff.mpr ⟨t, hk2, e⟩)
        rw [hb] at this
        cases this
    unfold rel
    match e : w.2, hall with
    | [], _ => exact .inl rfl
    | a :: l, hall => exact .inr (by rw [hall a List.mem_cons_self]; rfl)
theorem lyM_le {ans : List (Option Sp)} {L : Nat} {w : Nat × List Sp} (hw : w ∈ waysM ans L) {s : Sp} (h : rel s w) : (lyM ans s).length ≤ L := by
  have h1 := (rel_iff hw s).mp h
  have h2 := (mem_ways.mp hw).2.1
  exact Nat.le_trans (sizeN_le h1) h2
/-- the way that leaves out just the others -/
theorem way_of {ans : List (Option Sp)} {L : Nat} {s : Sp} (h : (lyM ans s).length ≤ L) : ∃ w ∈ waysM ans L, rel s w ∧ ∀ k, k < ans.length → w.1.testBit k = bad s ans[k]? := by
  have hb : ∀ k, k < ans.length → (maskN (fun k => bad s ans[k]?) ans.length).testBit k = bad s ans[k]? := fun k hk => maskN_bit _ _ k hk
  have hm : (maskN (fun k => bad s ans[k]?) ans.length, saidN ans (maskN (fun k => bad s ans[k]?) ans.length) ans.length) ∈ waysM ans L := by
    refine mem_ways.mpr ⟨maskN_lt _ _, ?_, rfl, len_lt2 (saidN_nodup _ _ _) (s := s) fun t ht => ?_⟩
    · rw [sizeN_mask]; exact h
    · obtain ⟨k, hk, h1, h2⟩ := saidN_iff.mp ht
      by_cases e : t = s
      · exact e
      · have : bad s ans[k]? = true := bad_iff.mpr ⟨t, h2, e⟩
        rw [hb k hk, this] at h1
        cases h1
  exact ⟨_, hm, (rel_iff hm s).mpr fun k hk h1 => (hb k hk).trans h1, hb⟩
/-! lies -/
theorem lieM_spec (s : Sp) (ws : List (Nat × List Sp)) : (lieM s ws = none → ∀ w ∈ ws, ¬ rel s w) ∧ ∀ c, lieM s ws = some c → (∃ w ∈ ws, rel s w) ∧ ∀ k, c.testBit k = true ↔ ∀ w ∈ ws, rel s w → w.1.testBit k = true := by
  induction ws using snocs with
  | h0 =>
    refine ⟨fun _ w hw => ?_, fun c h => ?_⟩
    · cases hw
    · cases h
  | h1 ws w ih =>
    by_cases hr : rel s w
    · have e1 : lieM s (ws ++ [w]) = some (match lieM s ws with | none => w.1 | some c => c &&& w.1) := by rw [lieM_snoc]; exact if_pos hr
      rw [e1]
      refine ⟨fun h => (by cases h), fun c h => ⟨⟨w, List.mem_append_right _ (List.mem_singleton.mpr rfl), hr⟩, fun k => ?_⟩⟩
      have h := Option.some.inj h
      subst h
      cases q : lieM s ws with
      | none =>
        have hno := ih.1 q
        constructor
        · intro hb v hv hv2
          rcases List.mem_append.mp hv with hv | hv
          · exact absurd hv2 (hno v hv)
          · rw [List.mem_singleton] at hv; subst hv; exact hb
        · intro hb
          exact hb w (List.mem_append_right _ (List.mem_singleton.mpr rfl)) hr
      | some c =>
        obtain ⟨_, h2⟩ := ih.2 c q
        show (c &&& w.1).testBit k = true ↔ _
        rw [Nat.testBit_and, Bool.and_eq_true, h2 k]
        constructor
        · rintro ⟨h3, h4⟩ v hv hv2
          rcases List.mem_append.mp hv with hv | hv
          · exact h3 v hv hv2
          · rw [List.mem_singleton] at hv; subst hv; exact h4
        · intro h3
          exact ⟨fun v hv hv2 => h3 v (List.mem_append_left _ hv) hv2, h3 w (List.mem_append_right _ (List.mem_singleton.mpr rfl)) hr⟩
    · have e1 : lieM s (ws ++ [w]) = lieM s ws := by rw [lieM_snoc]; exact if_neg hr
      rw [e1]
      refine ⟨fun h v hv => ?_, fun c h => ?_⟩
      · rcases List.mem_append.mp hv with hv | hv
        · exact ih.1 h v hv
        · rw [List.mem_singleton] at hv; subst hv; exact hr
      · obtain ⟨⟨v, hv, hv2⟩, h2⟩ := ih.2 c h
        refine ⟨⟨v, List.mem_append_left _ hv, hv2⟩, fun k => ?_⟩
        rw [h2 k]
        constructor
        · intro h3 v hv hv2
          rcases List.mem_append.mp hv with hv | hv
          · exact h3 v hv hv2
          · rw [List.mem_singleton] at hv; subst hv; exact absurd hv2 hr
        · intro h3 v hv hv2
          exact h3 v (List.mem_append_left _ hv) hv2
theorem lies_law (ans : List (Option Sp)) (L : Nat) (s : Sp) : dueLU ans.length (waysM ans L) s = liesU ans L s := by
  unfold dueLU liesU
  obtain ⟨h1, h2⟩ := lieM_spec s (waysM ans L)
  by_cases h : L < (lyM ans s).length
  · rw [if_pos h]
    cases q : lieM s (waysM ans L) with
    | none => rfl
    | some c =>
      obtain ⟨⟨w, hw, hr⟩, _⟩ := h2 c q
      exact absurd (lyM_le hw hr) (by omega)
  · rw [if_neg h]
    obtain ⟨w, hw, hr, hb⟩ := way_of (ans := ans) (L := L) (s := s) (by omega)
    cases q : lieM s (waysM ans L) with
    | none => exact absurd hr (h1 q w hw)
    | some c =>
      obtain ⟨_, h3⟩ := h2 c q
      simp only
      congr 2
      unfold lyM
      refine List.filter_congr fun k hk => ?_
      have hk := List.mem_range.mp hk
      rw [Bool.eq_iff_iff, h3 k]
      constructor
      · intro h4
        rw [← hb k hk]
        exact h4 w hw hr
      · intro h4 v hv hv2
        exact (rel_iff hv s).mp hv2 k hk h4
/-! order -/
theorem tok_inj {a b : Sp} (h : W.keyToks (pd (encS a)) = W.keyToks (pd (encS b))) : a = b := by
  have h1 : ("ask" : Str) ≠ "see" := by decide +kernel
  have hs : ∀ x y : Str, x.cps = y.cps → x = y := fun x y e => by
    cases x; cases y
    simp only at e
    rw [e]
  cases a <;> cases b <;> simp [encS, pd, pdL, W.keyToks, W.keyToksAll] at h <;> first | rfl | (rw [hs _ _ h]; done) | (rw [hs _ _ h.1, h.2]; done) | exact absurd (hs _ _ h.1) h1 | exact absurd (hs _ _ h.1).symm h1
def ltB (a b : U) : Bool := (PyProof.Rows.listOrd PyProof.Rows.itemOrd).blt (W.keyToks (pd a)) (W.keyToks (pd b))
theorem le_def (a b : U) : W.dataLe false pd a b = !ltB b a := rfl
theorem ltB_neg {a b c : U} (h : ltB a c = true) : ltB a b = true ∨ ltB b c = true := (PyProof.Rows.listOrd PyProof.Rows.itemOrd).negTrans _ _ _ h
theorem ltB_trans {a b c : U} (h : ltB a b = true) (g : ltB b c = true) : ltB a c = true := (PyProof.Rows.listOrd PyProof.Rows.itemOrd).trans _ _ _ h g
theorem ltB_irr (a : U) : ltB a a = false := (PyProof.Rows.listOrd PyProof.Rows.itemOrd).irrefl _
theorem ltB_tot {a b : U} (h : ltB a b = false) (g : ltB b a = false) : W.keyToks (pd a) = W.keyToks (pd b) := (PyProof.Rows.listOrd PyProof.Rows.itemOrd).total _ _ h g
theorem le_trans_ (a b c : U) : W.dataLe false pd a b = true → W.dataLe false pd b c = true → W.dataLe false pd a c = true := by
  simp only [le_def, Bool.not_eq_true']
  intro h1 h2
  cases q : ltB c a with
  | false => rfl
  | true =>
    rcases ltB_neg (b := b) q with z | z
    · rw [h2] at z; cases z
    · rw [h1] at z; cases z
theorem le_total_ (a b : U) : (W.dataLe false pd a b || W.dataLe false pd b a) = true := by
  simp only [le_def, Bool.or_eq_true, Bool.not_eq_true']
  cases q : ltB b a with
  | false => exact .inl rfl
  | true =>
    right
    cases q2 : ltB a b with
    | false => rfl
    | true =>
      have := ltB_trans q q2
      rw [ltB_irr] at this
      cases this
theorem le_anti (a b : Sp) (h1 : W.dataLe false pd (encS a) (encS b) = true) (h2 : W.dataLe false pd (encS b) (encS a) = true) : a = b := by
  simp only [le_def, Bool.not_eq_true'] at h1 h2
  exact tok_inj (ltB_tot h2 h1)
theorem sort_same {l m : List Sp} (hl : l.Nodup) (hm : m.Nodup) (h : ∀ s, s ∈ l ↔ s ∈ m) : sortU (l.map encS) = sortU (m.map encS) := by
  have hp : (l.map encS).Perm (m.map encS) := ((List.perm_ext_iff_of_nodup hl hm).mpr h).map encS
  unfold sortU
  refine List.Perm.eq_of_pairwise (le := fun a b => W.dataLe false pd a b = true) (fun a b ha hb h1 h2 => ?_) (List.pairwise_mergeSort le_trans_ le_total_ _) (List.pairwise_mergeSort le_trans_ le_total_ _)
    (((List.mergeSort_perm _ _).trans hp).trans (List.mergeSort_perm _ _).symm)
  have ha := (List.mergeSort_perm _ _).mem_iff.mp ha
  have hb := (List.mergeSort_perm _ _).mem_iff.mp hb
  rw [List.mem_map] at ha hb
  obtain ⟨x, _, rfl⟩ := ha
  obtain ⟨y, _, rfl⟩ := hb
  rw [le_anti x y h1 h2]
/-! what is possible -/
theorem mem_spk {ans : List (Option Sp)} {s : Sp} : s ∈ ans.filterMap id ↔ ∃ k, k < ans.length ∧ ans[k]? = some (some s) := by
  rw [List.mem_filterMap]
  constructor
  · rintro ⟨a, ha, e⟩
    have e : a = some s := e
    subst e
    obtain ⟨k, hk, e⟩ := List.getElem_of_mem ha
    exact ⟨k, hk, by rw [List.getElem?_eq_getElem hk, e]⟩
  · rintro ⟨k, hk, e⟩
    exact ⟨some s, List.mem_of_getElem? e, rfl⟩
def spkB (o : Option (Option Sp)) : Bool := match o with
  | some (some _) => true
  | _ => false
theorem spk_len (ans : List (Option Sp)) : (ans.filterMap id).length = ((List.range ans.length).filter fun k => spkB ans[k]?).length := by
  induction ans using snocs with
  | h0 => rfl
  | h1 l x ih =>
    rw [List.filterMap_append, List.length_append, List.length_append, List.length_singleton, List.range_succ, List.filter_append, List.length_append, ih]
    congr 1
    · congr 1
      refine List.filter_congr fun i hi => ?_
      rw [List.getElem?_append_left (List.mem_range.mp hi)]
    · rw [List.filter_cons]
      cases x <;> simp [spkB]
theorem dueP_some {ws : List (Nat × List Sp)} (h : ∀ w ∈ ws, w.2 ≠ []) : ∃ l, dueP ws = some l ∧ l.Nodup ∧ ∀ s, s ∈ l ↔ ∃ w ∈ ws, w.2.head? = some s := by
  induction ws using snocs with
  | h0 => exact ⟨[], rfl, List.nodup_nil, fun s => by simp⟩
  | h1 ws w ih =>
    obtain ⟨l, e1, e2, e3⟩ := ih fun v hv => h v (List.mem_append_left _ hv)
    have hw := h w (List.mem_append_right _ (List.mem_singleton.mpr rfl))
    rw [dueP_snoc, e1]
    match e : w.2, hw with
    | s :: t, _ =>
      refine ⟨if s ∈ l then l else l ++ [s], by unfold duePf; simp only [Option.bind_some, e], ?_, fun r => ?_⟩
      · split
        · exact e2
        · rename_i hn
          rw [List.nodup_append]
          exact ⟨e2, by simp, fun a ha b hb e' => by rw [List.mem_singleton] at hb; subst hb; subst e'; exact hn ha⟩
      · have hm : r ∈ (if s ∈ l then l else l ++ [s]) ↔ r ∈ l ∨ r = s := by
          split
          · rename_i hs
            exact ⟨.inl, fun z => z.elim id fun z => z ▸ hs⟩
          · rw [List.mem_append, List.mem_singleton]
        rw [hm, e3 r]
        constructor
        · rintro (⟨v, hv, h2⟩ | rfl)
          · exact ⟨v, List.mem_append_left _ hv, h2⟩
          · exact ⟨w, List.mem_append_right _ (List.mem_singleton.mpr rfl), by rw [e]; rfl⟩
        · rintro ⟨v, hv, h2⟩
          rcases List.mem_append.mp hv with hv | hv
          · exact .inl ⟨v, hv, h2⟩
          · rw [List.mem_singleton] at hv
            subst hv
            rw [e] at h2
            exact .inr (Option.some.inj h2).symm
theorem dueP_empty {ws : List (Nat × List Sp)} {w : Nat × List Sp} (hw : w ∈ ws) (h : w.2 = []) : dueP ws = none := by
  obtain ⟨a, b, rfl⟩ := List.append_of_mem hw
  have h1 : dueP (a ++ [w]) = none := by
    rw [dueP_snoc]
    unfold duePf
    cases dueP a with
    | none => rfl
    | some l => simp only [Option.bind_some, h]
  have := dueP_none (vs := b) h1
  rwa [List.append_assoc, List.singleton_append] at this
theorem poss_law (ans : List (Option Sp)) (L : Nat) : dueU (waysM ans L) = possU ans L := by
  unfold dueU possU
  by_cases h : (ans.filterMap id).length ≤ L
  · rw [if_pos h]
    have hb : ∀ k, k < ans.length → (maskN (fun k => spkB ans[k]?) ans.length).testBit k = spkB ans[k]? := fun k hk => maskN_bit _ _ k hk
    have hnil : saidN ans (maskN (fun k => spkB ans[k]?) ans.length) ans.length = [] := by
      cases q : saidN ans (maskN (fun k => spkB ans[k]?) ans.length) ans.length with
      | nil => rfl
      | cons t l =>
        have hm : t ∈ saidN ans (maskN (fun k => spkB ans[k]?) ans.length) ans.length := by rw [q]; exact List.mem_cons_self
        obtain ⟨k, hk, h1, h2⟩ := saidN_iff.mp hm
        rw [hb k hk, h2] at h1
        cases h1
    have hm : (maskN (fun k => spkB ans[k]?) ans.length, ([] : List Sp)) ∈ waysM ans L := by
      refine mem_ways.mpr ⟨maskN_lt _ _, ?_, hnil.symm, Nat.zero_lt_two⟩
      rw [sizeN_mask, ← spk_len]
      exact h
    rw [dueP_empty hm rfl]
  · rw [if_neg h]
    have hne : ∀ w ∈ waysM ans L, w.2 ≠ [] := fun w hw e => by
      obtain ⟨h1, h2, h3, h4⟩ := mem_ways.mp hw
      refine h ?_
      rw [spk_len]
      refine Nat.le_trans (sizeN_le fun k hk hs => ?_) h2
      cases q : w.1.testBit k with
      | true => rfl
      | false =>
        unfold spkB at hs
        split at hs
        · rename_i t ht
          have : t ∈ w.2 := by rw [h3]; exact saidN_iff.mpr ⟨k, hk, q, ht⟩
          rw [e] at this
          cases this
        · cases hs
    obtain ⟨l, e1, e2, e3⟩ := dueP_some hne
    rw [e1]
    simp only
    congr 1
    refine sort_same e2 (keysL_nodup _ _ _) fun s => ?_
    rw [e3 s, keysL_mem, mem_spk]
    constructor
    · rintro ⟨w, hw, hh⟩
      have hr : rel s w := .inr hh
      refine ⟨?_, lyM_le hw hr⟩
      obtain ⟨h1, h2, h3, h4⟩ := mem_ways.mp hw
      have hm : s ∈ w.2 := List.mem_of_mem_head? (by rw [hh]; rfl)
      rw [h3] at hm
      obtain ⟨k, hk, _, h5⟩ := saidN_iff.mp hm
      exact ⟨k, hk, h5⟩
    · rintro ⟨⟨k, hk, hs⟩, hle⟩
      obtain ⟨w, hw, hr, hb⟩ := way_of hle
      refine ⟨w, hw, ?_⟩
      rcases hr with hr | hr
      · exact absurd hr (hne w hw)
      · exact hr
/-- enough honest answers: one step is sure -/
theorem sure_law {ans : List (Option Sp)} {L : Nat} {a : Sp} (h1 : L + 1 ≤ ans.countP (good a)) (h2 : ans.countP (badb a) ≤ L) : possU ans L = .tup [encS a] := by
  have cnt : ∀ (P : Option Sp → Bool) (F : Option (Option Sp) → Bool), (∀ o, F (some o) = P o) → ans.countP P = ((List.range ans.length).filter fun k => F ans[k]?).length := by
    intro P F hF
    clear h1 h2
    induction ans using snocs with
    | h0 => rfl
    | h1 l x ih =>
      rw [List.countP_append, List.length_append, List.length_singleton, List.range_succ, List.filter_append, List.length_append, ih]
      congr 1
      · congr 1
        refine List.filter_congr fun i hi => ?_
        rw [List.getElem?_append_left (List.mem_range.mp hi)]
      · rw [List.filter_cons, List.countP_cons]
        simp [hF]
        split <;> rfl
  have hly : (lyM ans a).length ≤ L := by
    have := cnt (badb a) (bad a) fun o => rfl
    rw [this] at h2
    exact h2
  have hg := cnt (good a) (fun o => decide (o = some (some a))) fun o => by unfold good; simp
  have ha : ∃ k, k < ans.length ∧ ans[k]? = some (some a) := by
    have h3 : 0 < ans.countP (good a) := by omega
    rw [List.countP_pos_iff] at h3
    obtain ⟨o, ho, e⟩ := h3
    have e : o = some a := of_decide_eq_true e
    subst e
    obtain ⟨k, hk, e⟩ := List.getElem_of_mem ho
    exact ⟨k, hk, by rw [List.getElem?_eq_getElem hk, e]⟩
  have hsp : ¬ (ans.filterMap id).length ≤ L := by
    rw [spk_len]
    have : ((List.range ans.length).filter fun k => decide (ans[k]? = some (some a))).length ≤ ((List.range ans.length).filter fun k => spkB ans[k]?).length := by
      rw [← List.countP_eq_length_filter, ← List.countP_eq_length_filter]
      refine List.countP_mono_left fun k _ h => ?_
      rw [of_decide_eq_true h]
      rfl
    omega
  unfold possU
  rw [if_neg hsp]
  have hk : ∀ s, s ∈ keysL ans L (ans.filterMap id) ↔ s ∈ [a] := fun s => by
    rw [keysL_mem, mem_spk, List.mem_singleton]
    constructor
    · rintro ⟨_, hs⟩
      by_cases e : s = a
      · exact e
      · have : ((List.range ans.length).filter fun k => decide (ans[k]? = some (some a))).length ≤ (lyM ans s).length := by
          unfold lyM
          rw [← List.countP_eq_length_filter, ← List.countP_eq_length_filter]
          refine List.countP_mono_left fun k _ h => ?_
          exact bad_iff.mpr ⟨a, of_decide_eq_true h, fun z => e z.symm⟩
        omega
    · rintro rfl
      exact ⟨ha, hly⟩
  rw [sort_same (keysL_nodup _ _ _) (by simp) hk]
  simp [sortU]
end K69

set_option maxHeartbeats 400000
/-! k69: sameness, rows that hold -/
namespace K69
open PySem L2 Pl
/-- _law_row_holds: pool, liars, row, answers, ways, steps, step -/
def B_law_row_holds (law_same : Nat) (law_due_lies : Nat) (lies : Nat) (law_due_trusted : Nat) (trusted : Nat) (possible : Nat) (law_due_possible : Nat) (law_ways : Nat) : S := (.seq (.asg 3 (.blt .tuple (.cons (.var 2) .nil))) (.seq (.asg 4 (.call law_ways (.cons (.var 3) (.cons (.var 1) .nil)))) (.seq (.asg 5 (.call law_due_possible (.cons (.var 4) .nil))) (.seq (.ifs (.not (.call law_same (.cons (.call possible (.cons (.var 3) (.cons (.var 1) .nil))) (.cons (.var 5) .nil)))) (.seq (.ret (.bl false)) .skip) .skip) (.seq (.ifs (.not (.call law_same (.cons (.call trusted (.cons (.var 3) (.cons (.var 1) .nil))) (.cons (.call law_due_trusted (.cons (.var 5) .nil)) .nil)))) (.seq (.ret (.bl false)) .skip) .skip) (.seq (.for_ (.one 6) (.iSeq (.bin .add (.var 0) (.lst (.cons (.tup (.cons (.str "put") (.cons (.str "nobody") (.cons (.int 9) .nil)))) .nil)))) (.seq (.ifs (.not (.call law_same (.cons (.call lies (.cons (.var 3) (.cons (.var 1) (.cons (.var 6) .nil)))) (.cons (.call law_due_lies (.cons (.blt .len (.cons (.var 3) .nil)) (.cons (.var 4) (.cons (.var 6) .nil)))) .nil)))) (.seq (.ret (.bl false)) .skip) .skip) .skip)) (.seq (.ret (.bl true)) .skip)))))))
def okD : Nat → U → Bool
  | _, .non => true
  | _, .int _ => true
  | _, .str _ => true
  | n + 1, .tup l => decide (l.length ≤ 1000) && l.all (okD n)
  | _, _ => false
def SameC (C : CE) (f n : Nat) : Prop := ∀ (M : Hm) (told due : U) (m : Nat) (Q : QU), okD n due = true → okD m told = true → Q (.bl (decide (told = due))) M → C f [told, due] M Q
theorem same_ok {C : CE} {f n : Nat} (hrec : ∀ i, n = i + 1 → SameC C f i) {nx bk ct : SU → Hm → Prop} {rt : QU} {M : Hm} {told due : U} {m : Nat} (hd : okD n due = true) (ht : okD m told = true) (hq : rt (.bl (decide (told = due))) M) :
    wS C (B_law_same f) ⟨nx, rt, bk, ct⟩ (startU 3 [told, due]) M := by
  unfold B_law_same
  cases due with
  | bl _ => cases n <;> simp [okD] at hd
  | ref _ => cases n <;> simp [okD] at hd
  | rol _ => cases n <;> simp [okD] at hd
  | non =>
    (repeat decreasing_trivial_pre_omega)
    exact hq
  | int j =>
    cases told with
    | bl _ => cases m <;> simp [okD] at ht
    | ref _ => cases m <;> simp [okD] at ht
    | rol _ => cases m <;> simp [okD] at ht
    | int i =>
      rw [show decide (U.int i = U.int j) = decide (i = j) by simp] at hq
      (repeat decreasing_trivial_pre_omega)
      exact hq
    | non =>
      rw [decide_eq_false (by simp)] at hq
      (repeat decreasing_trivial_pre_omega)
      exact hq
    | str x =>
      rw [decide_eq_false (by simp)] at hq
      (repeat decreasing_trivial_pre_omega)
      exact hq
    | tup l =>
      rw [decide_eq_false (by simp)] at hq
      (repeat decreasing_trivial_pre_omega)
      exact hq
  | str y =>
    cases told with
    | bl _ => cases m <;> simp [okD] at ht
    | ref _ => cases m <;> simp [okD] at ht
    | rol _ => cases m <;> simp [okD] at ht
    | str x =>
      rw [show decide (U.str x = U.str y) = decide (x = y) by simp] at hq
      (repeat decreasing_trivial_pre_omega)
      exact hq
    | non =>
      rw [decide_eq_false (by simp)] at hq
      (repeat decreasing_trivial_pre_omega)
      exact hq
    | int i =>
      rw [decide_eq_false (by simp)] at hq
      (repeat decreasing_trivial_pre_omega)
      exact hq
    | tup l =>
      rw [decide_eq_false (by simp)] at hq
      (repeat decreasing_trivial_pre_omega)
      exact hq
  | tup l =>
    cases n with
    | zero => simp [okD] at hd
    | succ n =>
      have hr := hrec n rfl
      have hd2 : l.length ≤ 1000 ∧ ∀ x ∈ l, okD n x = true := by simpa [okD] using hd
      have hdl := hd2.2
      cases told with
      | bl _ => cases m <;> simp [okD] at ht
      | ref _ => cases m <;> simp [okD] at ht
      | rol _ => cases m <;> simp [okD] at ht
      | non =>
        rw [decide_eq_false (by simp)] at hq
        (repeat decreasing_trivial_pre_omega)
        exact hq
      | int i =>
        rw [decide_eq_false (by simp)] at hq
        (repeat decreasing_trivial_pre_omega)
        exact hq
      | str x =>
        rw [decide_eq_false (by simp)] at hq
        (repeat decreasing_trivial_pre_omega)
        exact hq
      | tup l2 =>
        cases m with
        | zero => simp [okD] at ht
        | succ m =>
        have ht2 : l2.length ≤ 1000 ∧ ∀ x ∈ l2, okD m x = true := by simpa [okD] using ht
        have htl := ht2.2
        have hbig : l.length ≤ LIM := by have := hd2.1; unfold LIM; omega
        have hdec : decide (U.tup l2 = U.tup l) = decide (l2 = l) := by simp
        rw [hdec] at hq
        (repeat decreasing_trivial_pre_omega)
        by_cases hlen : ((l2.length : Nat) : Int) = ((l.length : Nat) : Int)
        · have hlen' : l2.length = l.length := by omega
          (repeat decreasing_trivial_pre_omega)
          refine ⟨by omega, by omega, ?_⟩
          rw [rngU_nat]
          refine forL_by (enc := fun i : Nat => U.int (i : Nat)) (fun don rest σ M' => (∃ u2, σ = [some (.tup l2), some (.tup l), u2]) ∧ M' = M ∧ ∀ i, i < don.length → l2[i]? = l[i]?) (List.range l.length) ⟨⟨_, rfl⟩, rfl, fun i h => absurd h (Nat.not_lt_zero i)⟩ ?_ ?_
          · intro don j rest σ M' k e ⟨⟨u2, e1⟩, e2, e3⟩ hk
            subst e1 e2
            have hjl : don.length < l.length := by
              have : don.length + rest.length + 1 = l.length := by rw [← List.length_range (n := l.length), ← e]; simp; omega
              omega
            have hj : j = don.length := by
              have h1 : (List.range l.length)[don.length]? = some j := by rw [← e]; simp
              rw [List.getElem?_range hjl] at h1
              exact (Option.some.inj h1).symm
            subst hj
            have hjl2 : don.length < l2.length := by omega
            (repeat decreasing_trivial_pre_omega)
            refine x_tup (atI_nat hjl2) ?_
            (repeat decreasing_trivial_pre_omega)
            refine x_tup (atI_nat hjl) ?_
            (repeat decreasing_trivial_pre_omega)
            refine hr _ _ _ m _ (hdl _ (List.getElem_mem hjl)) (htl _ (List.getElem_mem hjl2)) ?_
            (repeat decreasing_trivial_pre_omega)
            by_cases he : l2[don.length] = l[don.length]
            · refine i_ift (decide_eq_true he) ?_
              (repeat decreasing_trivial_pre_omega)
              refine hk _ _ trivial ⟨⟨_, rfl⟩, rfl, fun i hi => ?_⟩
              rw [List.length_append, List.length_singleton] at hi
              by_cases hi2 : i = don.length
              · rw [hi2, List.getElem?_eq_getElem hjl2, List.getElem?_eq_getElem hjl, he]
              · exact e3 i (by omega)
            · refine i_iff (decide_eq_false he) ?_
              (repeat decreasing_trivial_pre_omega)
              rw [decide_eq_false (fun z => he (by subst z; rfl))] at hq
              exact hq
          · intro σ M' ⟨⟨u2, e1⟩, e2, e3⟩
            subst e1 e2
            rw [List.length_range] at e3
            have heq : l2 = l := List.ext_getElem? fun i => by
              by_cases hi : i < l.length
              · exact e3 i hi
              · rw [List.getElem?_eq_none (by omega), List.getElem?_eq_none (by omega)]
            rw [decide_eq_true heq] at hq
            (repeat decreasing_trivial_pre_omega)
            exact hq
        · rw [decide_eq_false (fun z => hlen (by rw [z]))] at hq
          (repeat decreasing_trivial_pre_omega)
          exact hq
def WaysC (C : CE) (f : Nat) : Prop := ∀ (M : Hm) (ans : List (Option Sp)) (L : Nat) (Q : QU), ans.length ≤ 9 → okA ans → (∀ r M', Sub M M' → WaysAt M' r (waysM ans L) → Q (.ref r) M') → C f [.tup (ans.map encA), .int L] M Q
def DuePC (C : CE) (f : Nat) : Prop := ∀ (M : Hm) (r : Addr) (ws : List (Nat × List Sp)) (Q : QU), WaysAt M r ws → WaysOk ws → (∀ M', Sub M M' → Q (dueU ws) M') → C f [.ref r] M Q
def DueTC (C : CE) (f : Nat) : Prop := ∀ (M : Hm) (u : U) (Q : QU), (u = .non ∨ ∃ l, u = .tup l) → Q (trustU u) M → C f [u] M Q
def DueLC (C : CE) (f : Nat) : Prop := ∀ (M : Hm) (r : Addr) (ws : List (Nat × List Sp)) (n : Nat) (s : Sp) (Q : QU), n ≤ 9 → s.ok → WaysAt M r ws → WaysOk ws → (∀ M', Sub M M' → Q (dueLU n ws s) M') → C f [.int n, .ref r, encS s] M Q
def TrustC (C : CE) (f : Nat) : Prop := ∀ (M : Hm) (ans : List (Option Sp)) (L : Nat) (Q : QU), ans.length < LIM → okA ans → (∀ M', Sub M M' → Q (trustU (possU ans L)) M') → C f [.tup (ans.map encA), .int L] M Q
def LiesC (C : CE) (f : Nat) : Prop := ∀ (M : Hm) (ans : List (Option Sp)) (L : Nat) (s : Sp) (Q : QU), ans.length < LIM → okA ans → s.ok → (∀ M', Sub M M' → Q (liesU ans L s) M') → C f [.tup (ans.map encA), .int L, encS s] M Q
theorem WaysAt.sub {M M' : Hm} {r : Addr} {ws : List (Nat × List Sp)} (h : WaysAt M r ws) (s : Sub M M') : WaysAt M' r ws := by
  obtain ⟨W, h1, h2, h3⟩ := h
  exact ⟨W, h1, s _ _ h2, fun w hw => ⟨(h3 w hw).1, s _ _ (h3 w hw).2⟩⟩
theorem okD_S (s : Sp) : okD 2 (encS s) = true := by cases s <;> simp [encS, okD]
theorem possU_shape (ans : List (Option Sp)) (L : Nat) : possU ans L = .non ∨ ∃ l, possU ans L = .tup l := by
  unfold possU
  split
  · exact .inl rfl
  · exact .inr ⟨_, rfl⟩
theorem okD_poss {ans : List (Option Sp)} {L : Nat} (hl : ans.length ≤ 9) : okD 3 (possU ans L) = true := by
  unfold possU
  split
  · rfl
  · have hp := List.mergeSort_perm ((keysL ans L (ans.filterMap id)).map encS) (W.dataLe false pd)
    have h1 := hp.length_eq
    rw [List.length_map] at h1
    have h2 := keysL_len ans L (ans.filterMap id)
    have h3 := List.length_filterMap_le id ans
    simp only [okD, Bool.and_eq_true, decide_eq_true_eq, List.all_eq_true]
    refine ⟨by unfold sortU; omega, fun x hx => ?_⟩
    have hx := hp.mem_iff.mp hx
    rw [List.mem_map] at hx
    obtain ⟨s, _, rfl⟩ := hx
    exact okD_S s
theorem okD_trust {u : U} (h : okD 3 u = true) : okD 3 (trustU u) = true := by
  unfold trustU
  split
  · simp [okD] at h
    simp [okD, h]
  · simp [okD]
  · simp [okD]
theorem okD_lies {ans : List (Option Sp)} {L : Nat} {s : Sp} (hl : ans.length ≤ 9) : okD 3 (liesU ans L s) = true := by
  unfold liesU
  split
  · rfl
  · have := lyM_len ans s
    simp only [okD, Bool.and_eq_true, decide_eq_true_eq, List.all_eq_true]
    refine ⟨by rw [List.length_map]; omega, fun x hx => ?_⟩
    rw [List.mem_map] at hx
    obtain ⟨i, _, rfl⟩ := hx
    rfl
theorem nobody_ok : (Sp.put "nobody" 9).ok := by
  show okS _ = true
  decide +kernel
theorem row_holds_ok {C : CE} {fs fdl fl fdt ft fp fdp fw : Nat} (cs : SameC C fs 3) (cdl : DueLC C fdl) (cl : LiesC C fl) (cdt : DueTC C fdt) (ct' : TrustC C ft) (cp : PossC C fp) (cdp : DuePC C fdp) (cw : WaysC C fw) {nx bk ct : SU → Hm → Prop} {rt : QU} {M : Hm} {q r : Addr} {a b c : Sp} {L : Nat} {ans : List (Option Sp)}
    (hq0 : M q = some (.lst ([a, b, c].map encS))) (hr0 : M r = some (.lst (ans.map encA))) (oa : a.ok) (ob : b.ok) (oc : c.ok) (hR : RowOk ans L) (hq : ∀ M', Sub M M' → rt (.bl true) M') :
    wS C (B_law_row_holds fs fdl fl fdt ft fp fdp fw) ⟨nx, rt, bk, ct⟩ (startU 7 [.ref q, .int L, .ref r]) M := by
  obtain ⟨hl, hL, ho⟩ := hR
  have hl' : ans.length < LIM := by unfold LIM; omega
  have wok := waysOk (L := L) hl ho
  unfold B_law_row_holds
  (repeat decreasing_trivial_pre_omega)
  refine cw _ _ _ _ hl ho fun w M1 s1 hw => ?_
  (repeat decreasing_trivial_pre_omega)
  refine cdp _ _ _ _ hw wok fun M2 s2 => ?_
  rw [poss_law]
  (repeat decreasing_trivial_pre_omega)
  refine cp _ _ _ _ hl' ho fun M3 s3 => ?_
  (repeat decreasing_trivial_pre_omega)
  refine cs _ _ _ 3 _ (okD_poss hl) (okD_poss hl) ?_
  rw [decide_eq_true rfl]
  (repeat decreasing_trivial_pre_omega)
  refine ct' _ _ _ _ hl' ho fun M4 s4 => ?_
  (repeat decreasing_trivial_pre_omega)
  refine cdt _ _ _ (possU_shape ans L) ?_
  (repeat decreasing_trivial_pre_omega)
  refine cs _ _ _ 3 _ (okD_trust (okD_poss hl)) (okD_trust (okD_poss hl)) ?_
  rw [decide_eq_true rfl]
  have S4 : Sub M M4 := ((s1.trans s2).trans s3).trans s4
  have W4 := hw.sub ((s2.trans s3).trans s4)
  have q4 := S4 _ _ hq0
  (repeat decreasing_trivial_pre_omega)
  intro x hx
  refine o_addL (us := [a, b, c].map encS) (ws := [Sp.put "nobody" 9].map encS) (um_old q4 hx) um_same (by simp [LIM]) ?_
  intro y hy
  rw [← List.map_append]
  (repeat decreasing_trivial_pre_omega)
  have S5 : Sub M4 (um (um M4 x (.lst ([Sp.put "nobody" 9].map encS))) y (.lst (([a, b, c] ++ [Sp.put "nobody" 9]).map encS))) := sub_new (sub_new (Sub.refl _) hx) hy
  refine forL_by (enc := encS) (fun don rest σ M' => (∃ u6, σ = [some (.ref q), some (.int L), some (.ref r), some (.tup (ans.map encA)), some (.ref w), some (possU ans L), u6]) ∧ Sub M4 M' ∧ M' y = some (.lst (([a, b, c] ++ [Sp.put "nobody" 9]).map encS))) ([a, b, c] ++ [Sp.put "nobody" 9]) ⟨⟨_, rfl⟩, S5, um_same⟩ ?_ ?_
  · intro don s rest σ M' k e ⟨⟨u6, e1⟩, e2, e3⟩ hk
    subst e1
    have hs : s.ok := by
      have hm : s ∈ [a, b, c] ++ [Sp.put "nobody" 9] := by rw [← e]; simp
      simp at hm
      rcases hm with rfl | rfl | rfl | rfl
      · exact oa
      · exact ob
      · exact oc
      · exact nobody_ok
    (repeat decreasing_trivial_pre_omega)
    refine cl _ _ _ _ _ hl' ho hs fun M6 s6 => ?_
    (repeat decreasing_trivial_pre_omega)
    rw [List.length_map]
    refine cdl _ _ _ _ _ _ hl hs ((W4.sub e2).sub s6) wok fun M7 s7 => ?_
    rw [lies_law]
    refine cs _ _ _ 3 _ (okD_lies hl) (okD_lies hl) ?_
    rw [decide_eq_true rfl]
    (repeat decreasing_trivial_pre_omega)
    exact hk _ _ (s7 _ _ (s6 _ _ e3)) ⟨⟨_, rfl⟩, (e2.trans s6).trans s7, s7 _ _ (s6 _ _ e3)⟩
  · intro σ M' ⟨⟨u6, e1⟩, e2, e3⟩
    subst e1
    (repeat decreasing_trivial_pre_omega)
    exact hq _ (S4.trans e2)
end K69

set_option maxHeartbeats 0
/-! the text's small syntax, its check, its head: printed by wip/gen.py -/
namespace K69
open PySem L2 Pl
/-- spoken -/
def b0 : S := (.seq (.ret (.comp [("answer", 1)] (.one 1) (.iSeq (.var 0)) (.notN (.var 1)) (.var 1))) .skip)
def d0 : Df := ⟨"spoken", ["answers"], ["answers", "answer"], b0⟩
/-- lying_places -/
def b1 : S := (.seq (.asg 2 (.lst .nil)) (.seq (.for_ (.many [3, 4]) (.iEnum (.var 0)) (.seq (.ifs (.ands (.cons (.notN (.var 4)) (.cons (.cmp .ne (.var 4) (.var 1)) .nil))) (.seq (.expr (.mth .append (.var 2) (.cons (.var 3) .nil))) .skip) .skip) .skip)) (.seq (.ret (.blt .tuple (.cons (.var 2) .nil))) .skip)))
def d1 : Df := ⟨"lying_places", ["answers", "step"], ["answers", "step", "places", "place", "answer"], b1⟩
/-- possible -/
def b2 : S := (.seq (.ifs (.cmp .le (.blt .len (.cons (.call 0 (.cons (.var 0) .nil)) .nil)) (.var 1)) (.seq (.ret .non) .skip) .skip) (.seq (.asg 2 (.dnew true)) (.seq (.for_ (.one 3) (.iSeq (.call 0 (.cons (.var 0) .nil))) (.seq (.ifs (.cmp .le (.blt .len (.cons (.call 1 (.cons (.var 0) (.cons (.var 3) .nil))) .nil)) (.var 1)) (.seq (.setIx (.var 2) (.var 3) (.bl true)) .skip) .skip) .skip)) (.seq (.ret (.blt .tuple (.cons (.blt .sorted (.cons (.var 2) .nil)) .nil))) .skip))))
def d2 : Df := ⟨"possible", ["answers", "liars"], ["answers", "liars", "found", "step"], b2⟩
/-- trusted -/
def b3 : S := (.seq (.asg 2 (.call 2 (.cons (.var 0) (.cons (.var 1) .nil)))) (.seq (.ifs (.isN (.var 2)) (.seq (.ret (.tup (.cons (.str "open") .nil))) .skip) .skip) (.seq (.ifs (.cmp .eq (.blt .len (.cons (.var 2) .nil)) (.int 0)) (.seq (.ret (.tup (.cons (.str "none") .nil))) .skip) .skip) (.seq (.ifs (.cmp .eq (.blt .len (.cons (.var 2) .nil)) (.int 1)) (.seq (.ret (.tup (.cons (.str "sure") (.cons (.ix (.var 2) (.int 0)) .nil)))) .skip) .skip) (.seq (.ret (.tup (.cons (.str "open") .nil))) .skip)))))
def d3 : Df := ⟨"trusted", ["answers", "liars"], ["answers", "liars", "steps"], b3⟩
/-- lies -/
def b4 : S := (.seq (.asg 3 (.call 1 (.cons (.var 0) (.cons (.var 2) .nil)))) (.seq (.ifs (.cmp .gt (.blt .len (.cons (.var 3) .nil)) (.var 1)) (.seq (.ret .non) .skip) .skip) (.seq (.ret (.var 3)) .skip)))
def d4 : Df := ⟨"lies", ["answers", "liars", "step"], ["answers", "liars", "step", "places"], b4⟩
/-- _law_begin -/
def b5 : S := (.seq (.ret (.lst (.cons (.comp [("cell", 1)] (.one 1) (.iSeq (.var 0)) .nil (.blt .int (.cons (.var 1) .nil))) (.cons (.int 0) (.cons (.int 0) (.cons (.int 7) .nil)))))) .skip)
def d5 : Df := ⟨"_law_begin", ["script"], ["script", "cell"], b5⟩
/-- _law_draw -/
def b6 : S := (.seq (.ifs (.cmp .gt (.ix (.var 0) (.int 2)) (.int 0)) (.seq (.asg 2 (.ix (.var 0) (.int 2))) (.seq (.setIx (.var 0) (.int 2) (.bin .fdiv (.var 2) (.var 1))) (.seq (.ret (.bin .mod (.blt .int (.cons (.var 2) .nil)) (.var 1))) .skip))) .skip) (.seq (.asg 3 (.int 0)) (.seq (.ifs (.cmp .lt (.ix (.var 0) (.int 1)) (.blt .len (.cons (.ix (.var 0) (.int 0)) .nil))) (.seq (.asg 4 (.ix (.ix (.var 0) (.int 0)) (.ix (.var 0) (.int 1)))) (.seq (.asg 3 (.bin .add (.bin .mul (.int 2) (.blt .abs (.cons (.var 4) .nil))) (.blt .int (.cons (.cmp .lt (.var 4) (.int 0)) .nil)))) .skip)) .skip) (.seq (.augIx (.var 0) (.int 1) .add (.int 1)) (.seq (.ifs (.cmp .ge (.var 3) (.bin .mul (.int 2) (.bin .pow (.int 10) (.int 18)))) (.seq (.asg 2 (.bin .mod (.blt .int (.cons (.bin .fdiv (.var 3) (.int 2)) .nil)) (.bin .shl (.int 1) (.int 6000)))) (.seq (.setIx (.var 0) (.int 2) (.bin .fdiv (.var 2) (.var 1))) (.seq (.ret (.bin .mod (.blt .int (.cons (.var 2) .nil)) (.var 1))) .skip))) .skip) (.seq (.setIx (.var 0) (.int 3) (.bin .mod (.blt .int (.cons (.bin .add (.bin .add (.bin .add (.bin .mul (.ix (.var 0) (.int 3)) (.int 48271)) (.bin .mul (.bin .mod (.blt .int (.cons (.var 3) .nil)) (.int 2147483629)) (.int 16807))) (.bin .mul (.ix (.var 0) (.int 1)) (.int 69621))) (.int 11)) .nil)) (.int 2147483647))) (.seq (.ret (.bin .mod (.blt .int (.cons (.bin .fdiv (.ix (.var 0) (.int 3)) (.int 16)) .nil)) (.var 1))) .skip)))))))
def d6 : Df := ⟨"_law_draw", ["d", "many"], ["d", "many", "found", "size", "cell"], b6⟩
/-- _law_pick -/
def b7 : S := (.seq (.ret (.ix (.var 1) (.call 6 (.cons (.var 0) (.cons (.blt .len (.cons (.var 1) .nil)) .nil))))) .skip)
def d7 : Df := ⟨"_law_pick", ["d", "row"], ["d", "row"], b7⟩
/-- _law_rare -/
def b8 : S := (.seq (.ret (.cmp .eq (.call 6 (.cons (.var 0) (.cons (.var 1) .nil))) (.bin .fdiv (.var 1) (.int 2)))) .skip)
def d8 : Df := ⟨"_law_rare", ["d", "many"], ["d", "many"], b8⟩
/-- _law_shuffled -/
def b9 : S := (.seq (.asg 2 (.blt .list (.cons (.var 1) .nil))) (.seq (.asg 3 (.lst .nil)) (.seq (.for_ (.one 4) (.iRange (.blt .len (.cons (.var 2) .nil))) (.seq (.expr (.mth .append (.var 3) (.cons (.mth .popAt (.var 2) (.cons (.call 6 (.cons (.var 0) (.cons (.blt .len (.cons (.var 2) .nil)) .nil))) .nil)) .nil))) .skip)) (.seq (.ret (.var 3)) .skip))))
def d9 : Df := ⟨"_law_shuffled", ["d", "row"], ["d", "row", "left", "found", "k"], b9⟩
/-- _law_files -/
def b10 : S := (.seq (.ret (.mth .split (.str "x y z lib gen conf objs tag page table o hdr mainfile ver docs w zz linkmap au cc") (.cons (.str " ") .nil))) .skip)
def d10 : Df := ⟨"_law_files", [], [], b10⟩
/-- _law_rules -/
def b11 : S := (.seq (.ret (.mth .split (.str "r q p all link comp lexer bind pack test goal x lastrule u v deep") (.cons (.str " ") .nil))) .skip)
def d11 : Df := ⟨"_law_rules", [], [], b11⟩
/-- _law_same -/
def b12 : S := (.seq (.ifs (.isinst (.var 1) "tuple") (.seq (.ifs (.ors (.cons (.not (.isinst (.var 0) "tuple")) (.cons (.cmp .ne (.blt .len (.cons (.var 0) .nil)) (.blt .len (.cons (.var 1) .nil))) .nil))) (.seq (.ret (.bl false)) .skip) .skip) (.seq (.for_ (.one 2) (.iRange (.blt .len (.cons (.var 1) .nil))) (.seq (.ifs (.not (.call 12 (.cons (.ix (.var 0) (.var 2)) (.cons (.ix (.var 1) (.var 2)) .nil)))) (.seq (.ret (.bl false)) .skip) .skip) .skip)) (.seq (.ret (.bl true)) .skip))) .skip) (.seq (.ifs (.isN (.var 1)) (.seq (.ret (.isN (.var 0))) .skip) .skip) (.seq (.ifs (.isinst (.var 1) "str") (.seq (.ret (.ands (.cons (.isinst (.var 0) "str") (.cons (.cmp .eq (.var 0) (.var 1)) .nil)))) .skip) .skip) (.seq (.ret (.ands (.cons (.isinst (.var 0) "int") (.cons (.not (.isinst (.var 0) "bool")) (.cons (.cmp .eq (.var 0) (.var 1)) .nil))))) .skip))))
def d12 : Df := ⟨"_law_same", ["told", "due"], ["told", "due", "k"], b12⟩
/-- _law_any_name -/
def b13 : S := (.seq (.ifs (.call 8 (.cons (.var 0) (.cons (.int 9) .nil))) (.seq (.ret (.call 7 (.cons (.var 0) (.cons (.lst (.cons (.str "else") (.cons (.str "") (.cons (.str "Ab") (.cons (.str "ninechars") (.cons (.str "a1") (.cons (.str "done") (.cons (.str "x y") .nil)))))))) .nil)))) .skip) .skip) (.seq (.ret (.call 7 (.cons (.var 0) (.cons (.var 1) .nil)))) .skip))
def d13 : Df := ⟨"_law_any_name", ["d", "pool"], ["d", "pool"], b13⟩
/-- _law_any_step -/
def b14 : S := (.seq (.asg 1 (.call 6 (.cons (.var 0) (.cons (.int 6) .nil)))) (.seq (.ifs (.cmp .eq (.var 1) (.int 0)) (.seq (.ret (.tup (.cons (.str "ask") (.cons (.call 13 (.cons (.var 0) (.cons (.call 11 .nil) .nil))) .nil)))) .skip) .skip) (.seq (.ifs (.cmp .eq (.var 1) (.int 1)) (.seq (.ret (.tup (.cons (.str "done") .nil))) .skip) .skip) (.seq (.ifs (.cmp .lt (.var 1) (.int 4)) (.seq (.ret (.tup (.cons (.str "see") (.cons (.call 13 (.cons (.var 0) (.cons (.call 10 .nil) .nil))) .nil)))) .skip) .skip) (.seq (.asg 2 (.call 6 (.cons (.var 0) (.cons (.int 4) .nil)))) (.seq (.ifs (.call 8 (.cons (.var 0) (.cons (.int 7) .nil))) (.seq (.asg 2 (.call 7 (.cons (.var 0) (.cons (.lst (.cons (.neg (.int 1000)) (.cons (.neg (.int 1)) (.cons (.int 4) (.cons (.int 1000) .nil))))) .nil)))) .skip) .skip) (.seq (.ret (.tup (.cons (.str "put") (.cons (.call 13 (.cons (.var 0) (.cons (.call 10 .nil) .nil))) (.cons (.var 2) .nil))))) .skip)))))))
def d14 : Df := ⟨"_law_any_step", ["d"], ["d", "kind", "content"], b14⟩
/-- _law_near_step -/
def b15 : S := (.seq (.asg 2 (.call 6 (.cons (.var 0) (.cons (.int 3) .nil)))) (.seq (.ifs (.cmp .eq (.ix (.var 1) (.int 0)) (.str "done")) (.seq (.ret (.tup (.cons (.str "ask") (.cons (.call 13 (.cons (.var 0) (.cons (.call 11 .nil) .nil))) .nil)))) .skip) .skip) (.seq (.ifs (.cmp .eq (.var 2) (.int 0)) (.seq (.ret (.ite (.cmp .eq (.ix (.var 1) (.int 0)) (.str "ask")) (.tup (.cons (.str "see") (.cons (.ix (.var 1) (.int 1)) .nil))) (.tup (.cons (.str "ask") (.cons (.ix (.var 1) (.int 1)) .nil))))) .skip) .skip) (.seq (.ifs (.ands (.cons (.cmp .eq (.ix (.var 1) (.int 0)) (.str "put")) (.cons (.cmp .eq (.var 2) (.int 1)) .nil))) (.seq (.ret (.tup (.cons (.str "put") (.cons (.ix (.var 1) (.int 1)) (.cons (.ite (.cmp .gt (.ix (.var 1) (.int 2)) (.int 0)) (.bin .sub (.ix (.var 1) (.int 2)) (.int 1)) (.bin .add (.ix (.var 1) (.int 2)) (.int 1))) .nil))))) .skip) .skip) (.seq (.ifs (.cmp .eq (.ix (.var 1) (.int 0)) (.str "put")) (.seq (.ret (.tup (.cons (.str "put") (.cons (.bin .add (.ix (.var 1) (.int 1)) (.str "x")) (.cons (.ix (.var 1) (.int 2)) .nil))))) .skip) .skip) (.seq (.ret (.tup (.cons (.ix (.var 1) (.int 0)) (.cons (.bin .add (.ix (.var 1) (.int 1)) (.str "x")) .nil)))) .skip))))))
def d15 : Df := ⟨"_law_near_step", ["d", "step"], ["d", "step", "way"], b15⟩
/-- _law_three_steps -/
def b16 : S := (.seq (.asg 1 (.call 14 (.cons (.var 0) .nil))) (.seq (.ret (.lst (.cons (.var 1) (.cons (.call 15 (.cons (.var 0) (.cons (.var 1) .nil))) (.cons (.call 14 (.cons (.var 0) .nil)) .nil))))) .skip))
def d16 : Df := ⟨"_law_three_steps", ["d"], ["d", "step"], b16⟩
/-- _law_role_row -/
def b17 : S := (.seq (.asg 3 (.call 6 (.cons (.var 0) (.cons (.int 5) .nil)))) (.seq (.asg 4 (.call 6 (.cons (.var 0) (.cons (.bin .add (.var 3) (.int 1)) .nil)))) (.seq (.asg 5 (.bin .add (.var 3) (.var 2))) (.seq (.asg 6 (.comp [("k", 7)] (.one 7) (.iRange (.var 5)) .nil (.ix (.var 1) (.int 0)))) (.seq (.for_ (.one 7) (.iRange (.var 4)) (.seq (.expr (.mth .append (.var 6) (.cons (.call 7 (.cons (.var 0) (.cons (.lst (.cons (.ix (.var 1) (.int 1)) (.cons (.ix (.var 1) (.int 1)) (.cons (.ix (.var 1) (.int 2)) (.cons (.ix (.var 1) (.int 0)) (.cons .non .nil)))))) .nil))) .nil))) .skip)) (.seq (.asg 8 (.call 6 (.cons (.var 0) (.cons (.bin .sub (.bin .sub (.int 10) (.var 5)) (.var 4)) .nil)))) (.seq (.ifs (.ands (.cons (.cmp .eq (.bin .add (.var 5) (.var 4)) (.int 0)) (.cons (.cmp .eq (.var 8) (.int 0)) .nil))) (.seq (.asg 8 (.int 1)) .skip) .skip) (.seq (.for_ (.one 7) (.iRange (.var 8)) (.seq (.expr (.mth .append (.var 6) (.cons .non .nil))) .skip)) (.seq (.ret (.tup (.cons (.var 3) (.cons (.call 9 (.cons (.var 0) (.cons (.var 6) .nil))) .nil)))) .skip)))))))))
def d17 : Df := ⟨"_law_role_row", ["d", "pool", "more"], ["d", "pool", "more", "liars", "lying", "honest", "row", "k", "empty"], b17⟩
/-- _law_free_row -/
def b18 : S := (.seq (.asg 2 (.lst .nil)) (.seq (.for_ (.one 3) (.iRange (.bin .add (.int 1) (.call 6 (.cons (.var 0) (.cons (.int 9) .nil))))) (.seq (.expr (.mth .append (.var 2) (.cons (.call 7 (.cons (.var 0) (.cons (.lst (.cons .non (.cons .non (.cons (.ix (.var 1) (.int 0)) (.cons (.ix (.var 1) (.int 0)) (.cons (.ix (.var 1) (.int 0)) (.cons (.ix (.var 1) (.int 1)) (.cons (.ix (.var 1) (.int 1)) (.cons (.ix (.var 1) (.int 2)) .nil))))))))) .nil))) .nil))) .skip)) (.seq (.ifs (.cmp .eq (.call 6 (.cons (.var 0) (.cons (.int 3) .nil))) (.int 0)) (.seq (.ret (.tup (.cons (.call 6 (.cons (.var 0) (.cons (.int 10) .nil))) (.cons (.var 2) .nil)))) .skip) .skip) (.seq (.asg 4 (.blt .len (.cons (.comp [("one", 5)] (.one 5) (.iSeq (.var 2)) (.ands (.cons (.notN (.var 5)) (.cons (.cmp .ne (.var 5) (.ix (.var 1) (.int 0))) .nil))) (.var 5)) .nil))) (.seq (.ret (.tup (.cons (.blt .min (.cons (.blt .max (.cons (.bin .sub (.bin .add (.var 4) (.call 6 (.cons (.var 0) (.cons (.int 3) .nil)))) (.int 1)) (.cons (.int 0) .nil))) (.cons (.int 9) .nil))) (.cons (.var 2) .nil)))) .skip)))))
def d18 : Df := ⟨"_law_free_row", ["d", "pool"], ["d", "pool", "row", "k", "others", "one"], b18⟩
/-- _law_ways -/
def b19 : S := (.seq (.asg 2 (.lst .nil)) (.seq (.for_ (.one 3) (.iRange (.bin .shl (.int 1) (.blt .len (.cons (.var 0) .nil)))) (.seq (.asg 4 (.int 0)) (.seq (.asg 5 (.lst .nil)) (.seq (.for_ (.one 6) (.iRange (.blt .len (.cons (.var 0) .nil))) (.seq (.ifs (.cmp .eq (.bin .band (.blt .int (.cons (.bin .shr (.var 3) (.var 6)) .nil)) (.int 1)) (.int 1)) (.seq (.augV 4 .add (.int 1)) .skip) (.seq (.ifs (.ands (.cons (.notN (.ix (.var 0) (.var 6))) (.cons (.cmp .notin (.ix (.var 0) (.var 6)) (.var 5)) .nil))) (.seq (.expr (.mth .append (.var 5) (.cons (.ix (.var 0) (.var 6)) .nil))) .skip) .skip) .skip)) .skip)) (.seq (.ifs (.ands (.cons (.cmp .le (.var 4) (.var 1)) (.cons (.cmp .lt (.blt .len (.cons (.var 5) .nil)) (.int 2)) .nil))) (.seq (.expr (.mth .append (.var 2) (.cons (.tup (.cons (.var 3) (.cons (.var 5) .nil))) .nil))) .skip) .skip) .skip))))) (.seq (.ret (.var 2)) .skip)))
def d19 : Df := ⟨"_law_ways", ["answers", "liars"], ["answers", "liars", "found", "number", "size", "said", "k"], b19⟩
/-- _law_due_possible -/
def b20 : S := (.seq (.asg 1 (.lst .nil)) (.seq (.for_ (.one 2) (.iSeq (.var 0)) (.seq (.ifs (.cmp .eq (.blt .len (.cons (.ix (.var 2) (.int 1)) .nil)) (.int 0)) (.seq (.ret .non) .skip) .skip) (.seq (.ifs (.cmp .notin (.ix (.ix (.var 2) (.int 1)) (.int 0)) (.var 1)) (.seq (.expr (.mth .append (.var 1) (.cons (.ix (.ix (.var 2) (.int 1)) (.int 0)) .nil))) .skip) .skip) .skip))) (.seq (.ret (.blt .tuple (.cons (.blt .sorted (.cons (.var 1) .nil)) .nil))) .skip)))
def d20 : Df := ⟨"_law_due_possible", ["ways"], ["ways", "found", "way"], b20⟩
/-- _law_due_trusted -/
def b21 : S := (.seq (.ifs (.ors (.cons (.isN (.var 0)) (.cons (.cmp .gt (.blt .len (.cons (.var 0) .nil)) (.int 1)) .nil))) (.seq (.ret (.tup (.cons (.str "open") .nil))) .skip) .skip) (.seq (.ifs (.cmp .eq (.blt .len (.cons (.var 0) .nil)) (.int 0)) (.seq (.ret (.tup (.cons (.str "none") .nil))) .skip) .skip) (.seq (.ret (.tup (.cons (.str "sure") (.cons (.ix (.var 0) (.int 0)) .nil)))) .skip)))
def d21 : Df := ⟨"_law_due_trusted", ["steps"], ["steps"], b21⟩
/-- _law_due_lies -/
def b22 : S := (.seq (.asg 3 (.neg (.int 1))) (.seq (.for_ (.one 4) (.iSeq (.var 1)) (.seq (.ifs (.ors (.cons (.cmp .eq (.blt .len (.cons (.ix (.var 4) (.int 1)) .nil)) (.int 0)) (.cons (.cmp .eq (.ix (.ix (.var 4) (.int 1)) (.int 0)) (.var 2)) .nil))) (.seq (.asg 3 (.bin .band (.var 3) (.ix (.var 4) (.int 0)))) .skip) .skip) .skip)) (.seq (.ifs (.cmp .eq (.var 3) (.neg (.int 1))) (.seq (.ret .non) .skip) .skip) (.seq (.ret (.blt .tuple (.cons (.comp [("k", 5)] (.one 5) (.iRange (.var 0)) (.cmp .eq (.bin .band (.blt .int (.cons (.bin .shr (.var 3) (.var 5)) .nil)) (.int 1)) (.int 1)) (.var 5)) .nil))) .skip))))
def d22 : Df := ⟨"_law_due_lies", ["many", "ways", "step"], ["many", "ways", "step", "common", "way", "k"], b22⟩
/-- _law_row_holds -/
def b23 : S := (.seq (.asg 3 (.blt .tuple (.cons (.var 2) .nil))) (.seq (.asg 4 (.call 19 (.cons (.var 3) (.cons (.var 1) .nil)))) (.seq (.asg 5 (.call 20 (.cons (.var 4) .nil))) (.seq (.ifs (.not (.call 12 (.cons (.call 2 (.cons (.var 3) (.cons (.var 1) .nil))) (.cons (.var 5) .nil)))) (.seq (.ret (.bl false)) .skip) .skip) (.seq (.ifs (.not (.call 12 (.cons (.call 3 (.cons (.var 3) (.cons (.var 1) .nil))) (.cons (.call 21 (.cons (.var 5) .nil)) .nil)))) (.seq (.ret (.bl false)) .skip) .skip) (.seq (.for_ (.one 6) (.iSeq (.bin .add (.var 0) (.lst (.cons (.tup (.cons (.str "put") (.cons (.str "nobody") (.cons (.int 9) .nil)))) .nil)))) (.seq (.ifs (.not (.call 12 (.cons (.call 4 (.cons (.var 3) (.cons (.var 1) (.cons (.var 6) .nil)))) (.cons (.call 22 (.cons (.blt .len (.cons (.var 3) .nil)) (.cons (.var 4) (.cons (.var 6) .nil)))) .nil)))) (.seq (.ret (.bl false)) .skip) .skip) .skip)) (.seq (.ret (.bl true)) .skip)))))))
def d23 : Df := ⟨"_law_row_holds", ["pool", "liars", "row"], ["pool", "liars", "row", "answers", "ways", "steps", "step"], b23⟩
/-- law -/
def b24 : S := (.seq (.asg 1 (.call 5 (.cons (.var 0) .nil))) (.seq (.asg 2 (.lst .nil)) (.seq (.for_ (.one 3) (.iRange (.int 3)) (.seq (.asg 4 (.call 16 (.cons (.var 1) .nil))) (.seq (.ifs (.cmp .eq (.var 3) (.int 1)) (.seq (.asgT [5, 6] (.call 18 (.cons (.var 1) (.cons (.var 4) .nil)))) .skip) (.seq (.asgT [5, 6] (.call 17 (.cons (.var 1) (.cons (.var 4) (.cons (.blt .int (.cons (.cmp .eq (.var 3) (.int 0)) .nil)) .nil))))) .skip)) (.seq (.expr (.mth .append (.var 2) (.cons (.tup (.cons (.var 4) (.cons (.var 5) (.cons (.var 6) .nil)))) .nil))) (.seq (.ifs (.not (.call 23 (.cons (.var 4) (.cons (.var 5) (.cons (.var 6) .nil))))) (.seq (.ret (.bl false)) .skip) .skip) .skip))))) (.seq (.asgT [4, 5, 6] (.ix (.var 2) (.int 0))) (.seq (.ifs (.not (.call 12 (.cons (.call 3 (.cons (.blt .tuple (.cons (.var 6) .nil)) (.cons (.var 5) .nil))) (.cons (.tup (.cons (.str "sure") (.cons (.ix (.var 4) (.int 0)) .nil))) .nil)))) (.seq (.ret (.bl false)) .skip) .skip) (.seq (.ret (.call 23 (.cons (.var 4) (.cons (.var 5) (.cons (.var 6) .nil))))) .skip))))))
def d24 : Df := ⟨"law", ["script"], ["script", "d", "rows", "turn", "pool", "liars", "row"], b24⟩
def T : List Df := [d0, d1, d2, d3, d4, d5, d6, d7, d8, d9, d10, d11, d12, d13, d14, d15, d16, d17, d18, d19, d20, d21, d22, d23, d24]
def top (i : Nat) : Stmt := PySem.Challenge.pw_holdstill_k69_whole_trust.main.body.getD i (.Pass ⟨0, 0, 0, 0⟩)
def sts : List Stmt := [top 1, top 2, top 3, top 4, top 5, top 7, top 8, top 9, top 10, top 11, top 12, top 13, top 14, top 15, top 16, top 17, top 18, top 19, top 20, top 21, top 22, top 23, top 24, top 25, top 26]
theorem ck0 : (nameOf (top 1) = d0.name) ∧ ckF T d0 (top 1) = true := by decide +kernel
theorem bd0 : BindP d0.name (top 1) d0.ps := fun _ _ _ _ _ _ us hl => match us, hl with | [_], _ => rfl
theorem ck1 : (nameOf (top 2) = d1.name) ∧ ckF T d1 (top 2) = true := by decide +kernel
theorem bd1 : BindP d1.name (top 2) d1.ps := fun _ _ _ _ _ _ us hl => match us, hl with | [_, _], _ => rfl
theorem ck2 : (nameOf (top 3) = d2.name) ∧ ckF T d2 (top 3) = true := by decide +kernel
theorem bd2 : BindP d2.name (top 3) d2.ps := fun _ _ _ _ _ _ us hl => match us, hl with | [_, _], _ => rfl
theorem ck3 : (nameOf (top 4) = d3.name) ∧ ckF T d3 (top 4) = true := by decide +kernel
theorem bd3 : BindP d3.name (top 4) d3.ps := fun _ _ _ _ _ _ us hl => match us, hl with | [_, _], _ => rfl
theorem ck4 : (nameOf (top 5) = d4.name) ∧ ckF T d4 (top 5) = true := by decide +kernel
theorem bd4 : BindP d4.name (top 5) d4.ps := fun _ _ _ _ _ _ us hl => match us, hl with | [_, _, _], _ => rfl
theorem ck5 : (nameOf (top 7) = d5.name) ∧ ckF T d5 (top 7) = true := by decide +kernel
theorem bd5 : BindP d5.name (top 7) d5.ps := fun _ _ _ _ _ _ us hl => match us, hl with | [_], _ => rfl
theorem ck6 : (nameOf (top 8) = d6.name) ∧ ckF T d6 (top 8) = true := by decide +kernel
theorem bd6 : BindP d6.name (top 8) d6.ps := fun _ _ _ _ _ _ us hl => match us, hl with | [_, _], _ => rfl
theorem ck7 : (nameOf (top 9) = d7.name) ∧ ckF T d7 (top 9) = true := by decide +kernel
theorem bd7 : BindP d7.name (top 9) d7.ps := fun _ _ _ _ _ _ us hl => match us, hl with | [_, _], _ => rfl
theorem ck8 : (nameOf (top 10) = d8.name) ∧ ckF T d8 (top 10) = true := by decide +kernel
theorem bd8 : BindP d8.name (top 10) d8.ps := fun _ _ _ _ _ _ us hl => match us, hl with | [_, _], _ => rfl
theorem ck9 : (nameOf (top 11) = d9.name) ∧ ckF T d9 (top 11) = true := by decide +kernel
theorem bd9 : BindP d9.name (top 11) d9.ps := fun _ _ _ _ _ _ us hl => match us, hl with | [_, _], _ => rfl
theorem ck10 : (nameOf (top 12) = d10.name) ∧ ckF T d10 (top 12) = true := by decide +kernel
theorem bd10 : BindP d10.name (top 12) d10.ps := fun _ _ _ _ _ _ us hl => match us, hl with | [], _ => rfl
theorem ck11 : (nameOf (top 13) = d11.name) ∧ ckF T d11 (top 13) = true := by decide +kernel
theorem bd11 : BindP d11.name (top 13) d11.ps := fun _ _ _ _ _ _ us hl => match us, hl with | [], _ => rfl
theorem ck12 : (nameOf (top 14) = d12.name) ∧ ckF T d12 (top 14) = true := by decide +kernel
theorem bd12 : BindP d12.name (top 14) d12.ps := fun _ _ _ _ _ _ us hl => match us, hl with | [_, _], _ => rfl
theorem ck13 : (nameOf (top 15) = d13.name) ∧ ckF T d13 (top 15) = true := by decide +kernel
theorem bd13 : BindP d13.name (top 15) d13.ps := fun _ _ _ _ _ _ us hl => match us, hl with | [_, _], _ => rfl
theorem ck14 : (nameOf (top 16) = d14.name) ∧ ckF T d14 (top 16) = true := by decide +kernel
theorem bd14 : BindP d14.name (top 16) d14.ps := fun _ _ _ _ _ _ us hl => match us, hl with | [_], _ => rfl
theorem ck15 : (nameOf (top 17) = d15.name) ∧ ckF T d15 (top 17) = true := by decide +kernel
theorem bd15 : BindP d15.name (top 17) d15.ps := fun _ _ _ _ _ _ us hl => match us, hl with | [_, _], _ => rfl
theorem ck16 : (nameOf (top 18) = d16.name) ∧ ckF T d16 (top 18) = true := by decide +kernel
theorem bd16 : BindP d16.name (top 18) d16.ps := fun _ _ _ _ _ _ us hl => match us, hl with | [_], _ => rfl
theorem ck17 : (nameOf (top 19) = d17.name) ∧ ckF T d17 (top 19) = true := by decide +kernel
theorem bd17 : BindP d17.name (top 19) d17.ps := fun _ _ _ _ _ _ us hl => match us, hl with | [_, _, _], _ => rfl
theorem ck18 : (nameOf (top 20) = d18.name) ∧ ckF T d18 (top 20) = true := by decide +kernel
theorem bd18 : BindP d18.name (top 20) d18.ps := fun _ _ _ _ _ _ us hl => match us, hl with | [_, _], _ => rfl
theorem ck19 : (nameOf (top 21) = d19.name) ∧ ckF T d19 (top 21) = true := by decide +kernel
theorem bd19 : BindP d19.name (top 21) d19.ps := fun _ _ _ _ _ _ us hl => match us, hl with | [_, _], _ => rfl
theorem ck20 : (nameOf (top 22) = d20.name) ∧ ckF T d20 (top 22) = true := by decide +kernel
theorem bd20 : BindP d20.name (top 22) d20.ps := fun _ _ _ _ _ _ us hl => match us, hl with | [_], _ => rfl
theorem ck21 : (nameOf (top 23) = d21.name) ∧ ckF T d21 (top 23) = true := by decide +kernel
theorem bd21 : BindP d21.name (top 23) d21.ps := fun _ _ _ _ _ _ us hl => match us, hl with | [_], _ => rfl
theorem ck22 : (nameOf (top 24) = d22.name) ∧ ckF T d22 (top 24) = true := by decide +kernel
theorem bd22 : BindP d22.name (top 24) d22.ps := fun _ _ _ _ _ _ us hl => match us, hl with | [_, _, _], _ => rfl
theorem ck23 : (nameOf (top 25) = d23.name) ∧ ckF T d23 (top 25) = true := by decide +kernel
theorem bd23 : BindP d23.name (top 25) d23.ps := fun _ _ _ _ _ _ us hl => match us, hl with | [_, _, _], _ => rfl
theorem ck24 : (nameOf (top 26) = d24.name) ∧ ckF T d24 (top 26) = true := by decide +kernel
theorem bd24 : BindP d24.name (top 26) d24.ps := fun _ _ _ _ _ _ us hl => match us, hl with | [_], _ => rfl
theorem ck : ckT T sts = true := by
  unfold ckT
  rw [Bool.and_eq_true]
  refine ⟨by decide, ?_⟩
  show (List.zip [d0, d1, d2, d3, d4, d5, d6, d7, d8, d9, d10, d11, d12, d13, d14, d15, d16, d17, d18, d19, d20, d21, d22, d23, d24] [top 1, top 2, top 3, top 4, top 5, top 7, top 8, top 9, top 10, top 11, top 12, top 13, top 14, top 15, top 16, top 17, top 18, top 19, top 20, top 21, top 22, top 23, top 24, top 25, top 26]).all _ = true
  simp only [List.zip_cons_cons, List.zip_nil_right, List.all_cons, List.all_nil, Bool.and_true, Bool.and_eq_true, decide_eq_true_eq]
  exact ⟨⟨ck0.1, ck0.2⟩, ⟨ck1.1, ck1.2⟩, ⟨ck2.1, ck2.2⟩, ⟨ck3.1, ck3.2⟩, ⟨ck4.1, ck4.2⟩, ⟨ck5.1, ck5.2⟩, ⟨ck6.1, ck6.2⟩, ⟨ck7.1, ck7.2⟩, ⟨ck8.1, ck8.2⟩, ⟨ck9.1, ck9.2⟩, ⟨ck10.1, ck10.2⟩, ⟨ck11.1, ck11.2⟩, ⟨ck12.1, ck12.2⟩, ⟨ck13.1, ck13.2⟩, ⟨ck14.1, ck14.2⟩, ⟨ck15.1, ck15.2⟩, ⟨ck16.1, ck16.2⟩, ⟨ck17.1, ck17.2⟩, ⟨ck18.1, ck18.2⟩, ⟨ck19.1, ck19.2⟩, ⟨ck20.1, ck20.2⟩, ⟨ck21.1, ck21.2⟩, ⟨ck22.1, ck22.2⟩, ⟨ck23.1, ck23.2⟩, ⟨ck24.1, ck24.2⟩⟩
theorem bd : ∀ (i : Nat) (d : Df) (st : Stmt), T[i]? = some d → sts[i]? = some st → BindP d.name st d.ps := fun i d st h1 h2 => by
  match i, h1, h2 with
  | 0, h1, h2 => exact by cases h1; cases h2; exact bd0
  | 1, h1, h2 => exact by cases h1; cases h2; exact bd1
  | 2, h1, h2 => exact by cases h1; cases h2; exact bd2
  | 3, h1, h2 => exact by cases h1; cases h2; exact bd3
  | 4, h1, h2 => exact by cases h1; cases h2; exact bd4
  | 5, h1, h2 => exact by cases h1; cases h2; exact bd5
  | 6, h1, h2 => exact by cases h1; cases h2; exact bd6
  | 7, h1, h2 => exact by cases h1; cases h2; exact bd7
  | 8, h1, h2 => exact by cases h1; cases h2; exact bd8
  | 9, h1, h2 => exact by cases h1; cases h2; exact bd9
  | 10, h1, h2 => exact by cases h1; cases h2; exact bd10
  | 11, h1, h2 => exact by cases h1; cases h2; exact bd11
  | 12, h1, h2 => exact by cases h1; cases h2; exact bd12
  | 13, h1, h2 => exact by cases h1; cases h2; exact bd13
  | 14, h1, h2 => exact by cases h1; cases h2; exact bd14
  | 15, h1, h2 => exact by cases h1; cases h2; exact bd15
  | 16, h1, h2 => exact by cases h1; cases h2; exact bd16
  | 17, h1, h2 => exact by cases h1; cases h2; exact bd17
  | 18, h1, h2 => exact by cases h1; cases h2; exact bd18
  | 19, h1, h2 => exact by cases h1; cases h2; exact bd19
  | 20, h1, h2 => exact by cases h1; cases h2; exact bd20
  | 21, h1, h2 => exact by cases h1; cases h2; exact bd21
  | 22, h1, h2 => exact by cases h1; cases h2; exact bd22
  | 23, h1, h2 => exact by cases h1; cases h2; exact bd23
  | 24, h1, h2 => exact by cases h1; cases h2; exact bd24
  | i + 25, h1, _ => cases h1
theorem cs0 {k : Nat} {us : List U} {M : Hm} {Q : QU} (hl : us.length = 1) (h : wS (Cs T k) b0 ⟨fun _ M1 => ∃ M2, Sub M2 M1 ∧ Q .non M2, fun u M1 => ∃ M2, Sub M2 M1 ∧ Q u M2, fun _ _ => False, fun _ _ => False⟩ (startU 2 us) M) : Cs T (k + 1) 0 us M Q := ⟨d0, rfl, hl, h⟩
theorem cs1 {k : Nat} {us : List U} {M : Hm} {Q : QU} (hl : us.length = 2) (h : wS (Cs T k) b1 ⟨fun _ M1 => ∃ M2, Sub M2 M1 ∧ Q .non M2, fun u M1 => ∃ M2, Sub M2 M1 ∧ Q u M2, fun _ _ => False, fun _ _ => False⟩ (startU 5 us) M) : Cs T (k + 1) 1 us M Q := ⟨d1, rfl, hl, h⟩
theorem cs2 {k : Nat} {us : List U} {M : Hm} {Q : QU} (hl : us.length = 2) (h : wS (Cs T k) b2 ⟨fun _ M1 => ∃ M2, Sub M2 M1 ∧ Q .non M2, fun u M1 => ∃ M2, Sub M2 M1 ∧ Q u M2, fun _ _ => False, fun _ _ => False⟩ (startU 4 us) M) : Cs T (k + 1) 2 us M Q := ⟨d2, rfl, hl, h⟩
theorem cs3 {k : Nat} {us : List U} {M : Hm} {Q : QU} (hl : us.length = 2) (h : wS (Cs T k) b3 ⟨fun _ M1 => ∃ M2, Sub M2 M1 ∧ Q .non M2, fun u M1 => ∃ M2, Sub M2 M1 ∧ Q u M2, fun _ _ => False, fun _ _ => False⟩ (startU 3 us) M) : Cs T (k + 1) 3 us M Q := ⟨d3, rfl, hl, h⟩
theorem cs4 {k : Nat} {us : List U} {M : Hm} {Q : QU} (hl : us.length = 3) (h : wS (Cs T k) b4 ⟨fun _ M1 => ∃ M2, Sub M2 M1 ∧ Q .non M2, fun u M1 => ∃ M2, Sub M2 M1 ∧ Q u M2, fun _ _ => False, fun _ _ => False⟩ (startU 4 us) M) : Cs T (k + 1) 4 us M Q := ⟨d4, rfl, hl, h⟩
theorem cs5 {k : Nat} {us : List U} {M : Hm} {Q : QU} (hl : us.length = 1) (h : wS (Cs T k) b5 ⟨fun _ M1 => ∃ M2, Sub M2 M1 ∧ Q .non M2, fun u M1 => ∃ M2, Sub M2 M1 ∧ Q u M2, fun _ _ => False, fun _ _ => False⟩ (startU 2 us) M) : Cs T (k + 1) 5 us M Q := ⟨d5, rfl, hl, h⟩
theorem cs6 {k : Nat} {us : List U} {M : Hm} {Q : QU} (hl : us.length = 2) (h : wS (Cs T k) b6 ⟨fun _ M1 => ∃ M2, Sub M2 M1 ∧ Q .non M2, fun u M1 => ∃ M2, Sub M2 M1 ∧ Q u M2, fun _ _ => False, fun _ _ => False⟩ (startU 5 us) M) : Cs T (k + 1) 6 us M Q := ⟨d6, rfl, hl, h⟩
theorem cs7 {k : Nat} {us : List U} {M : Hm} {Q : QU} (hl : us.length = 2) (h : wS (Cs T k) b7 ⟨fun _ M1 => ∃ M2, Sub M2 M1 ∧ Q .non M2, fun u M1 => ∃ M2, Sub M2 M1 ∧ Q u M2, fun _ _ => False, fun _ _ => False⟩ (startU 2 us) M) : Cs T (k + 1) 7 us M Q := ⟨d7, rfl, hl, h⟩
theorem cs8 {k : Nat} {us : List U} {M : Hm} {Q : QU} (hl : us.length = 2) (h : wS (Cs T k) b8 ⟨fun _ M1 => ∃ M2, Sub M2 M1 ∧ Q .non M2, fun u M1 => ∃ M2, Sub M2 M1 ∧ Q u M2, fun _ _ => False, fun _ _ => False⟩ (startU 2 us) M) : Cs T (k + 1) 8 us M Q := ⟨d8, rfl, hl, h⟩
theorem cs9 {k : Nat} {us : List U} {M : Hm} {Q : QU} (hl : us.length = 2) (h : wS (Cs T k) b9 ⟨fun _ M1 => ∃ M2, Sub M2 M1 ∧ Q .non M2, fun u M1 => ∃ M2, Sub M2 M1 ∧ Q u M2, fun _ _ => False, fun _ _ => False⟩ (startU 5 us) M) : Cs T (k + 1) 9 us M Q := ⟨d9, rfl, hl, h⟩
theorem cs10 {k : Nat} {us : List U} {M : Hm} {Q : QU} (hl : us.length = 0) (h : wS (Cs T k) b10 ⟨fun _ M1 => ∃ M2, Sub M2 M1 ∧ Q .non M2, fun u M1 => ∃ M2, Sub M2 M1 ∧ Q u M2, fun _ _ => False, fun _ _ => False⟩ (startU 0 us) M) : Cs T (k + 1) 10 us M Q := ⟨d10, rfl, hl, h⟩
theorem cs11 {k : Nat} {us : List U} {M : Hm} {Q : QU} (hl : us.length = 0) (h : wS (Cs T k) b11 ⟨fun _ M1 => ∃ M2, Sub M2 M1 ∧ Q .non M2, fun u M1 => ∃ M2, Sub M2 M1 ∧ Q u M2, fun _ _ => False, fun _ _ => False⟩ (startU 0 us) M) : Cs T (k + 1) 11 us M Q := ⟨d11, rfl, hl, h⟩
theorem cs12 {k : Nat} {us : List U} {M : Hm} {Q : QU} (hl : us.length = 2) (h : wS (Cs T k) b12 ⟨fun _ M1 => ∃ M2, Sub M2 M1 ∧ Q .non M2, fun u M1 => ∃ M2, Sub M2 M1 ∧ Q u M2, fun _ _ => False, fun _ _ => False⟩ (startU 3 us) M) : Cs T (k + 1) 12 us M Q := ⟨d12, rfl, hl, h⟩
theorem cs13 {k : Nat} {us : List U} {M : Hm} {Q : QU} (hl : us.length = 2) (h : wS (Cs T k) b13 ⟨fun _ M1 => ∃ M2, Sub M2 M1 ∧ Q .non M2, fun u M1 => ∃ M2, Sub M2 M1 ∧ Q u M2, fun _ _ => False, fun _ _ => False⟩ (startU 2 us) M) : Cs T (k + 1) 13 us M Q := ⟨d13, rfl, hl, h⟩
theorem cs14 {k : Nat} {us : List U} {M : Hm} {Q : QU} (hl : us.length = 1) (h : wS (Cs T k) b14 ⟨fun _ M1 => ∃ M2, Sub M2 M1 ∧ Q .non M2, fun u M1 => ∃ M2, Sub M2 M1 ∧ Q u M2, fun _ _ => False, fun _ _ => False⟩ (startU 3 us) M) : Cs T (k + 1) 14 us M Q := ⟨d14, rfl, hl, h⟩
theorem cs15 {k : Nat} {us : List U} {M : Hm} {Q : QU} (hl : us.length = 2) (h : wS (Cs T k) b15 ⟨fun _ M1 => ∃ M2, Sub M2 M1 ∧ Q .non M2, fun u M1 => ∃ M2, Sub M2 M1 ∧ Q u M2, fun _ _ => False, fun _ _ => False⟩ (startU 3 us) M) : Cs T (k + 1) 15 us M Q := ⟨d15, rfl, hl, h⟩
theorem cs16 {k : Nat} {us : List U} {M : Hm} {Q : QU} (hl : us.length = 1) (h : wS (Cs T k) b16 ⟨fun _ M1 => ∃ M2, Sub M2 M1 ∧ Q .non M2, fun u M1 => ∃ M2, Sub M2 M1 ∧ Q u M2, fun _ _ => False, fun _ _ => False⟩ (startU 2 us) M) : Cs T (k + 1) 16 us M Q := ⟨d16, rfl, hl, h⟩
theorem cs17 {k : Nat} {us : List U} {M : Hm} {Q : QU} (hl : us.length = 3) (h : wS (Cs T k) b17 ⟨fun _ M1 => ∃ M2, Sub M2 M1 ∧ Q .non M2, fun u M1 => ∃ M2, Sub M2 M1 ∧ Q u M2, fun _ _ => False, fun _ _ => False⟩ (startU 9 us) M) : Cs T (k + 1) 17 us M Q := ⟨d17, rfl, hl, h⟩
theorem cs18 {k : Nat} {us : List U} {M : Hm} {Q : QU} (hl : us.length = 2) (h : wS (Cs T k) b18 ⟨fun _ M1 => ∃ M2, Sub M2 M1 ∧ Q .non M2, fun u M1 => ∃ M2, Sub M2 M1 ∧ Q u M2, fun _ _ => False, fun _ _ => False⟩ (startU 6 us) M) : Cs T (k + 1) 18 us M Q := ⟨d18, rfl, hl, h⟩
theorem cs19 {k : Nat} {us : List U} {M : Hm} {Q : QU} (hl : us.length = 2) (h : wS (Cs T k) b19 ⟨fun _ M1 => ∃ M2, Sub M2 M1 ∧ Q .non M2, fun u M1 => ∃ M2, Sub M2 M1 ∧ Q u M2, fun _ _ => False, fun _ _ => False⟩ (startU 7 us) M) : Cs T (k + 1) 19 us M Q := ⟨d19, rfl, hl, h⟩
theorem cs20 {k : Nat} {us : List U} {M : Hm} {Q : QU} (hl : us.length = 1) (h : wS (Cs T k) b20 ⟨fun _ M1 => ∃ M2, Sub M2 M1 ∧ Q .non M2, fun u M1 => ∃ M2, Sub M2 M1 ∧ Q u M2, fun _ _ => False, fun _ _ => False⟩ (startU 3 us) M) : Cs T (k + 1) 20 us M Q := ⟨d20, rfl, hl, h⟩
theorem cs21 {k : Nat} {us : List U} {M : Hm} {Q : QU} (hl : us.length = 1) (h : wS (Cs T k) b21 ⟨fun _ M1 => ∃ M2, Sub M2 M1 ∧ Q .non M2, fun u M1 => ∃ M2, Sub M2 M1 ∧ Q u M2, fun _ _ => False, fun _ _ => False⟩ (startU 1 us) M) : Cs T (k + 1) 21 us M Q := ⟨d21, rfl, hl, h⟩
theorem cs22 {k : Nat} {us : List U} {M : Hm} {Q : QU} (hl : us.length = 3) (h : wS (Cs T k) b22 ⟨fun _ M1 => ∃ M2, Sub M2 M1 ∧ Q .non M2, fun u M1 => ∃ M2, Sub M2 M1 ∧ Q u M2, fun _ _ => False, fun _ _ => False⟩ (startU 6 us) M) : Cs T (k + 1) 22 us M Q := ⟨d22, rfl, hl, h⟩
theorem cs23 {k : Nat} {us : List U} {M : Hm} {Q : QU} (hl : us.length = 3) (h : wS (Cs T k) b23 ⟨fun _ M1 => ∃ M2, Sub M2 M1 ∧ Q .non M2, fun u M1 => ∃ M2, Sub M2 M1 ∧ Q u M2, fun _ _ => False, fun _ _ => False⟩ (startU 7 us) M) : Cs T (k + 1) 23 us M Q := ⟨d23, rfl, hl, h⟩
theorem cs24 {k : Nat} {us : List U} {M : Hm} {Q : QU} (hl : us.length = 1) (h : wS (Cs T k) b24 ⟨fun _ M1 => ∃ M2, Sub M2 M1 ∧ Q .non M2, fun u M1 => ∃ M2, Sub M2 M1 ∧ Q u M2, fun _ _ => False, fun _ _ => False⟩ (startU 7 us) M) : Cs T (k + 1) 24 us M Q := ⟨d24, rfl, hl, h⟩
/-! ### the head -/
def fn : List He.DefD := sts.map mkD
def fa : List He.Fa := facts T
abbrev R : PySem.W.OpenRow := PySem.W.OpenLaw.row PySem.Challenge.rw_holdstill_k69_whole_trust
abbrev hk : PySem.W.Hook := He.hookD 4 fa fn
def ob (s : PySem.W.SharedT) : He.AlD := He.obsDG 4 fa fn (HandSHeadRun.getT s)
theorem ob_eq (s : PySem.W.SharedT) : ob s = hk.obs s.abs := He.obsDG_eq (HandSHeadRun.getT_eq s)
def loose : List PySem.Str := ["spoken", "lying_places", "possible", "trusted", "lies", "_law_begin", "_law_draw", "_law_pick", "_law_rare", "_law_shuffled", "_law_files", "_law_rules", "_law_same", "_law_any_name", "_law_any_step", "_law_near_step", "_law_three_steps", "_law_role_row", "_law_free_row", "_law_ways", "_law_due_possible", "_law_due_trusted", "_law_due_lies", "_law_row_holds"]
theorem run (w : World) : HandSHeadRun.RunEq R (PySem.W.view R.prog [26]) hk ob 4000 loose w := by
  intro os
  kernel_rfl
end K69

set_option maxHeartbeats 400000
/-! k69: joined -/
namespace K69
open PySem L2 Pl
def depth : Nat := 40
theorem c_draw (k : Nat) : DrawC (Cs T (k + 1)) 6 := fun M p many Q d h1 h2 hq => cs6 rfl (draw_ok d h1 h2 fun r M' r0 r1 d' fr => ⟨M', Pl.Sub.refl _, hq r M' r0 r1 d' (Fr.of_eq fr)⟩)
theorem c_pick (k : Nat) : PickC (Cs T (k + 2)) 7 := fun M p row us Q d hr h1 h2 hq => cs7 rfl (pick_ok (c_draw k) d hr h1 h2 fun x M' hx d' fr => ⟨M', Pl.Sub.refl _, hq x M' hx d' fr⟩)
theorem c_rare (k : Nat) : RareC (Cs T (k + 2)) 8 := fun M p many Q d h1 h2 hq => cs8 rfl (rare_ok (c_draw k) d h1 h2 fun b M' d' fr => ⟨M', Pl.Sub.refl _, hq b M' d' fr⟩)
theorem c_shuf (k : Nat) : ShufC (Cs T (k + 2)) 9 := fun M p r us Q d hr hl hq => cs9 rfl (shuffled_ok (c_draw k) d hr hl fun q ws M' h1 h2 h3 h4 h5 h6 h7 => ⟨M', Pl.Sub.refl _, hq q ws M' h1 h2 h3 h4 h5 h6 h7⟩)
theorem c_files (k : Nat) : NamesC (Cs T (k + 1)) 10 okN := fun M Q hq => cs10 rfl (by
  unfold b10
  (repeat decreasing_trivial_pre_omega)
  refine ⟨⟨_, rfl⟩, ?_⟩
  (repeat decreasing_trivial_pre_omega)
  refine ⟨by decide +kernel, by decide +kernel, fun p hp => ⟨_, Pl.Sub.refl _, hq p _ _ (sub_new (Pl.Sub.refl _) hp) hp um_same (by decide +kernel) (by decide +kernel) ?_⟩⟩
  unfold okN
  decide +kernel)
theorem c_rules (k : Nat) : NamesC (Cs T (k + 1)) 11 okN := fun M Q hq => cs11 rfl (by
  unfold b11
  (repeat decreasing_trivial_pre_omega)
  refine ⟨⟨_, rfl⟩, ?_⟩
  (repeat decreasing_trivial_pre_omega)
  refine ⟨by decide +kernel, by decide +kernel, fun p hp => ⟨_, Pl.Sub.refl _, hq p _ _ (sub_new (Pl.Sub.refl _) hp) hp um_same (by decide +kernel) (by decide +kernel) ?_⟩⟩
  unfold okN
  decide +kernel)
theorem c_same : ∀ (n k : Nat), SameC (Cs T (k + n + 1)) 12 n
  | 0, k => fun M told due m Q h1 h2 hq => cs12 rfl (same_ok (fun i e => by cases e) h1 h2 ⟨M, Pl.Sub.refl _, hq⟩)
  | n + 1, k => fun M told due m Q h1 h2 hq => cs12 rfl (same_ok (n := n + 1) (fun i e => by cases e; exact c_same n k) h1 h2 ⟨M, Pl.Sub.refl _, hq⟩)
theorem c_name (k : Nat) : NameC (Cs T (k + 3)) 13 := fun M p r l Q d h1 h2 h3 h4 h5 hq => cs13 rfl (any_name_ok (c_pick k) (c_rare k) d h1 h2 h3 h4 h5 fun x M' hx d' fr => ⟨M', Pl.Sub.refl _, hq x M' hx d' fr⟩)
theorem c_step (k : Nat) : StepC' (Cs T (k + 4)) 14 := fun M p Q d hq => cs14 rfl (any_step_ok (c_name k) (c_files (k + 2)) (c_rare (k + 1)) (c_pick (k + 1)) (c_draw (k + 2)) (c_rules (k + 2)) d fun s M' hs d' fr => ⟨M', Pl.Sub.refl _, hq s M' hs d' fr⟩)
theorem c_near (k : Nat) : NearC (Cs T (k + 4)) 15 := fun M p s Q d hs hq => cs15 rfl (near_step_ok (c_name k) (c_rules (k + 2)) (c_draw (k + 2)) d hs fun s M' hs d' fr => ⟨M', Pl.Sub.refl _, hq s M' hs d' fr⟩)
theorem c_spoken (k : Nat) : SpokenC (Cs T (k + 1)) 0 := fun M ans Q hl hq => cs0 rfl (spoken_ok hl fun p M' s e => ⟨M', Pl.Sub.refl _, hq p M' s e⟩)
theorem c_lying (k : Nat) : LyingC (Cs T (k + 1)) 1 := fun M ans s Q hl ho hs hq => cs1 rfl (lying_ok hl ho hs fun M' s' => ⟨M', Pl.Sub.refl _, hq M' s'⟩)
theorem c_poss (k : Nat) : PossC (Cs T (k + 2)) 2 := fun M ans L Q hl ho hq => cs2 rfl (show wS (Cs T (k + 1)) (B_possible 0 1) _ _ _ from possible_ok (c_spoken k) (c_lying k) hl ho fun M' s' => ⟨M', Pl.Sub.refl _, hq M' s'⟩)
theorem c_trust (k : Nat) : TrustC (Cs T (k + 3)) 3 := fun M ans L Q hl ho hq => cs3 rfl (trusted_ok (c_poss k) hl ho fun M' s' => ⟨M', Pl.Sub.refl _, hq M' s'⟩)
theorem c_lies (k : Nat) : LiesC (Cs T (k + 2)) 4 := fun M ans L s Q hl ho hs hq => cs4 rfl (lies_ok (c_lying k) hl ho hs fun M' s' => ⟨M', Pl.Sub.refl _, hq M' s'⟩)
theorem c_ways (k : Nat) : WaysC (Cs T (k + 1)) 19 := fun M ans L Q hl ho hq => cs19 rfl (ways_ok hl ho fun r M' s' h => ⟨M', Pl.Sub.refl _, hq r M' s' h⟩)
theorem c_dueP (k : Nat) : DuePC (Cs T (k + 1)) 20 := fun M r ws Q h1 h2 hq => cs20 rfl (due_possible_ok h1 h2 fun M' s' => ⟨M', Pl.Sub.refl _, hq M' s'⟩)
theorem c_dueT (k : Nat) : DueTC (Cs T (k + 1)) 21 := fun M u Q h hq => cs21 rfl (due_trusted_ok h ⟨M, Pl.Sub.refl _, hq⟩)
theorem c_dueL (k : Nat) : DueLC (Cs T (k + 1)) 22 := fun M r ws n s Q h1 h2 h3 h4 hq => cs22 rfl (due_lies_ok h1 h2 h3 h4 fun M' s' => ⟨M', Pl.Sub.refl _, hq M' s'⟩)
theorem c_holds (k : Nat) {M : Hm} {q r : Addr} {a b c : Sp} {L : Nat} {ans : List (Option Sp)} {Q : QU} (h1 : M q = some (.lst ([a, b, c].map encS))) (h2 : M r = some (.lst (ans.map encA))) (oa : a.ok) (ob : b.ok) (oc : c.ok) (hR : RowOk ans L) (hq : ∀ M', Pl.Sub M M' → Q (.bl true) M') :
    Cs T (k + 5) 23 [.ref q, .int L, .ref r] M Q := cs23 rfl (row_holds_ok (c_same 3 k) (c_dueL (k + 3)) (c_lies (k + 2)) (c_dueT (k + 3)) (c_trust (k + 1)) (c_poss (k + 2)) (c_dueP (k + 3)) (c_ways (k + 3)) h1 h2 oa ob oc hR fun M' s => ⟨M', Pl.Sub.refl _, hq M' s⟩)
/-- a row of the law, and what lies at its places -/
def rowU (w : Addr × Nat × Addr) : U := .tup [.ref w.1, .int (w.2.1 : Nat), .ref w.2.2]
def FirstOk (M : Hm) (w : Addr × Nat × Addr) : Prop := ∃ (a b c : Sp) (ans : List (Option Sp)), M w.1 = some (.lst ([a, b, c].map encS)) ∧ M w.2.2 = some (.lst (ans.map encA)) ∧ a.ok ∧ b.ok ∧ c.ok ∧ RowOk ans w.2.1 ∧ possU ans w.2.1 = .tup [encS a]
theorem FirstOk.sub {M M' : Hm} {w : Addr × Nat × Addr} (h : FirstOk M w) (s : ∀ a, a = w.1 ∨ a = w.2.2 → ∀ o, M a = some o → M' a = some o) : FirstOk M' w := by
  obtain ⟨a, b, c, ans, h1, h2, h3⟩ := h
  exact ⟨a, b, c, ans, s _ (.inl rfl) _ h1, s _ (.inr rfl) _ h2, h3⟩
theorem law_true (ns : List Int) (hns : ns.length ≤ 63) : Cs T depth 24 [.rol (ns.map U.int)] (fun _ => none) (fun u _ => u = .bl true) := by
  refine cs24 (k := 39) rfl ?_
  unfold b24
  (repeat decreasing_trivial_pre_omega)
  refine cs5 (k := 38) rfl (begin_ok hns fun p M0 s0 d0 => ⟨M0, Pl.Sub.refl _, ?_⟩)
  (repeat decreasing_trivial_pre_omega)
  intro ro hro
  have nr1 := d0.ne hro
  have nr2 := d0.ne2 hro
  (repeat decreasing_trivial_pre_omega)
  refine ⟨by simp [LIM], by simp [LIM], ?_⟩
  rw [show (3 : Int) = ((3 : Nat) : Int) from rfl, rngU_nat]
  refine forL_by (enc := fun i : Nat => U.int (i : Nat)) (fun don rest σ M' => ∃ (u3 u4 u5 u6 : Option U) (rows : List (Addr × Nat × Addr)), σ = [some (.rol (ns.map U.int)), some (.ref p.1), some (.ref ro), u3, u4, u5, u6] ∧ Dr M' p ∧ rows.length = don.length ∧ M' ro = some (.lst (rows.map rowU)) ∧ ∀ w, rows[0]? = some w → w.1 ≠ p.1 ∧ w.2.2 ≠ p.1 ∧ w.1 ≠ ro ∧ w.2.2 ≠ ro ∧ FirstOk M' w) (List.range 3)
    ⟨_, _, _, _, [], rfl, d0.upd hro, rfl, um_same, by intro w hw; cases hw⟩ ?_ ?_
  · intro don i rest σ M1 k e ⟨u3, u4, u5, u6, rows, e1, d1, e2, e3, e4⟩ hk
    subst e1
    have hi : i = don.length := by
      have h1 : (List.range 3)[don.length]? = some i := by rw [← e]; simp
      rw [List.getElem?_range (by
        have : don.length + rest.length + 1 = 3 := by rw [← List.length_range (n := 3), ← e]; simp; omega
        omega)] at h1
      exact (Option.some.inj h1).symm
    subst hi
    (repeat decreasing_trivial_pre_omega)
    refine cs16 (k := 38) rfl (three_ok (c_step 34) (c_near 34) d1 fun a b c q M2 oa ob oc d2 fr2 hq1 nq hq2 => ⟨M2, Pl.Sub.refl _, ?_⟩)
    have e3' := fr2.at_ nr1 e3
    have nqr : q ≠ ro := ne_of_old' e3 hq1
    have old2 : ∀ w, rows[0]? = some w → FirstOk M2 w := fun w hw => (e4 w hw).2.2.2.2.sub fun x hx o h => fr2.at_ (by rcases hx with rfl | rfl; exact (e4 w hw).1; exact (e4 w hw).2.1) h
    (repeat decreasing_trivial_pre_omega)
    have hlen : don.length < 3 := by
      have : don.length + rest.length + 1 = 3 := by rw [← List.length_range (n := 3), ← e]; simp; omega
      omega
    have fin : ∀ (L : Nat) (r : Addr) (ans : List (Option Sp)) (M3 : Hm) (rt' : QU) (bk' : SU → Hm → Prop), RowOk ans L → (don = [] → possU ans L = .tup [encS a]) → Dr M3 p → Fr p M2 M3 → r ≠ p.1 → M2 r = none → M3 r = some (.lst (ans.map encA)) →
        wS (Cs T 39) (.seq (.expr (.mth .append (.var 2) (.cons (.tup (.cons (.var 4) (.cons (.var 5) (.cons (.var 6) .nil)))) .nil))) (.seq (.ifs (.not (.call 23 (.cons (.var 4) (.cons (.var 5) (.cons (.var 6) .nil))))) (.seq (.ret (.bl false)) .skip) .skip) .skip))
          ⟨k, rt', bk', k⟩ [some (.rol (ns.map U.int)), some (.ref p.1), some (.ref ro), some (.int don.length), some (.ref q), some (.int L), some (.ref r)] M3 := by
      intro L r ans M3 rt' bk' hR hp d3 fr3 nr hr0 hr
      have rro : r ≠ ro := ne_of_old' e3' hr0
      have f3 := fr3.at_ nr1 e3'
      have fq := fr3.at_ nq hq2
      (repeat decreasing_trivial_pre_omega)
      refine m_app f3 (by rw [List.length_map, e2]; unfold LIM; omega) ?_
      (repeat decreasing_trivial_pre_omega)
      refine c_holds 34 (by rw [um_ne nqr]; exact fq) (by rw [um_ne rro]; exact hr) oa ob oc hR fun M4 s4 => ?_
      (repeat decreasing_trivial_pre_omega)
      refine hk _ _ trivial ⟨_, _, _, _, rows ++ [(q, L, r)], rfl, (d3.upd2 nr1 nr2).sub s4, by simp [e2], ?_, ?_⟩
      · refine s4 _ _ ?_
        rw [um_same, List.map_append]
        rfl
      · intro w hw
        cases rows with
        | nil =>
          have hw : (q, L, r) = w := Option.some.inj hw
          subst hw
          have hdn : don = [] := List.eq_nil_of_length_eq_zero (by rw [← e2]; rfl)
          exact ⟨nq, nr, nqr, rro, a, b, c, ans, s4 _ _ (by rw [um_ne nqr]; exact fq), s4 _ _ (by rw [um_ne rro]; exact hr), oa, ob, oc, hR, hp hdn⟩
        | cons v rows =>
          have hw : v = w := Option.some.inj hw
          subst hw
          obtain ⟨g1, g2, g3, g4, _⟩ := e4 v rfl
          have g5 := old2 v rfl
          refine ⟨g1, g2, g3, g4, g5.sub fun x hx o h => s4 _ _ ?_⟩
          have hxro : x ≠ ro := by rcases hx with rfl | rfl; exact g3; exact g4
          have hxp : x ≠ p.1 := by rcases hx with rfl | rfl; exact g1; exact g2
          rw [um_ne hxro]
          exact fr3.at_ hxp h
    by_cases h1 : ((don.length : Nat) : Int) = 1
    · refine i_ifdt h1 ?_
      refine z_seq (z_asgT ?_)
      (repeat decreasing_trivial_pre_omega)
      refine cs18 (k := 38) rfl (free_ok (c_pick 36) (c_draw 37) d2 nq hq2 oa ob oc fun L r ans M3 hR d3 fr3 nr hr0 hr => ⟨M3, Pl.Sub.refl _, ?_⟩)
      refine z_asgT2 rfl (z_skip ?_)
      exact fin L r ans M3 _ _ hR (fun z => by rw [z] at h1; simp at h1) d3 fr3 nr hr0 hr
    · refine i_ifdf h1 ?_
      refine z_seq (z_asgT ?_)
      (repeat decreasing_trivial_pre_omega)
      obtain ⟨m, hm, hm1, hm0⟩ : ∃ m : Nat, (if decide (((don.length : Nat) : Int) = 0) = true then (1 : Int) else 0) = (m : Int) ∧ m ≤ 1 ∧ (don = [] → m = 1) := by
        by_cases hd0 : don.length = 0
        · exact ⟨1, by rw [if_pos (by simp [hd0])]; rfl, Nat.le_refl _, fun _ => rfl⟩
        · exact ⟨0, by rw [if_neg (by simp [hd0])]; rfl, Nat.zero_le _, fun z => absurd (by rw [z]; rfl) hd0⟩
      rw [hm]
      refine cs17 (k := 38) rfl (role_ok (c_shuf 36) (c_pick 36) (c_draw 37) d2 nq hq2 oa ob oc hm1 fun L r ans M3 hR hg hb d3 fr3 nr hr0 hr => ⟨M3, Pl.Sub.refl _, ?_⟩)
      refine z_asgT2 rfl (z_skip ?_)
      exact fin L r ans M3 _ _ hR (fun z => sure_law (by rw [hm0 z] at hg; exact hg) hb) d3 fr3 nr hr0 hr
  · intro σ M1 ⟨u3, u4, u5, u6, rows, e1, d1, e2, e3, e4⟩
    subst e1
    rw [List.length_range] at e2
    match rows, e2 with
    | w :: rows, e2 =>
      obtain ⟨n1, n2, n3, n4, a, b, c, ans, h1, h2, oa, ob, oc, hR, hp⟩ := e4 w rfl
      (repeat decreasing_trivial_pre_omega)
      refine x_lst e3 (atI_0 (x := rowU w)) ?_
      refine ⟨_, _, rfl, rfl, ?_⟩
      (repeat decreasing_trivial_pre_omega)
      refine c_trust 36 _ _ _ _ (by have := hR.1; unfold LIM; omega) hR.2.2 fun M2 s2 => ?_
      rw [hp]
      have h1' := s2 _ _ h1
      (repeat decreasing_trivial_pre_omega)
      refine c_same 3 35 _ _ _ 3 _ (by simp [okD, okD_S]) (by simp [trustU, okD, okD_S]) ?_
      rw [show decide (trustU (.tup [encS a]) = .tup [.str "sure", encS a]) = true from decide_eq_true rfl]
      (repeat decreasing_trivial_pre_omega)
      refine c_holds 34 h1' (s2 _ _ h2) oa ob oc hR fun M3 s3 => ?_
      (repeat decreasing_trivial_pre_omega)
      exact ⟨M3, Pl.Sub.refl _, rfl⟩
end K69

open PySem PySem.W PySem.Calls PyProof.Rows
theorem PySem.Challenge.cw_holdstill_k69_whole_trust_holds : PySem.Challenge.rw_holdstill_k69_whole_trust.Holds := by
  w_on; o_law
  refine HandSHeadRun.head_any (r := OpenLaw.row PySem.Challenge.rw_holdstill_k69_whole_trust) (q := view (OpenLaw.row PySem.Challenge.rw_holdstill_k69_whole_trust).prog [26]) (H := K69.hk) (ob := K69.ob) (M := 4000) (loose := K69.loose) (d := HandSHeadRun.topDef (OpenLaw.row PySem.Challenge.rw_holdstill_k69_whole_trust).prog 26) (kwd := []) K69.ob_eq
    (by kernel_rfl) (fun s => by kernel_rfl) K69.run (by kernel_rfl) (by kernel_rfl) (by kernel_rfl) (by rfl) (by first | assumption | decide +kernel) (by decide +kernel) ⟨rfl, rfl, rfl, rfl, rfl, by decide +kernel⟩ ?hw ?hc
  case hw => w_witness2
  case hc =>
    refine L2.walk_ofE (l := PySem.Challenge.rw_holdstill_k69_whole_trust) (n := 63) (k := K69.depth) (x := "script") (CX := L2.CX0) rfl (by decide) (by kernel_rfl) ⟨rfl, by decide, by decide⟩ ?F (fun _ _ _ _ z => z)
    intro w mg fa h Y G hmg0
    obtain ⟨K, KX, c⟩ := Y
    have hmg : mg ("law" : PySem.Str) = some (.ref fa) := by
      have e : (HandSHeadRun.topDef (OpenLaw.row PySem.Challenge.rw_holdstill_k69_whole_trust).prog 26).name = ("law" : PySem.Str) := by kernel_rfl
      rw [← e]
      exact hmg0
    obtain ⟨fd, sp, hb, hs, hF⟩ := Pl.law_ok (P := (PySem.Challenge.rw_holdstill_k69_whole_trust).prog) (wd := w) (n := 24) (k := K69.depth) (dl := K69.d24) K69.ck K69.bd rfl rfl rfl KX G hmg c K69.law_true
    exact ⟨K, fd, sp, KX, hb, hs, hF⟩

