import PyProof.Rows.All
import Wide.All
import OpenK.AllK
import Wide.FinOn
import HandS.ForMost
import HandS.Conv
import HandS.IsInst
import HandS.Style
import HandS.TupAny
import HandS.TupLe
import HandS.Deep
import HandS.SetKeys
import HandS.NoneIn
import HandS.Head0
import HandS.Head1
import HandS.Head2
import HandS.HeadEnd
import HandS.HeadHook1
import HandS.HeadHook2
import HandS.Defaults
import KE.KStateDown
import Lean
import PySem.Challenge.RW_holdstill_k03_traces_read
set_option Elab.async false
set_option linter.all false
set_option maxRecDepth 100000
set_option maxHeartbeats 4000000
/-! Pl: pure values over the abstract heap, a small syntax, what it asks. -/
namespace Pl
open PySem L2

abbrev Fg := PySem.W.Frag

/-- pure values: tuples are values; ref: something that can change; rol: a list that is only read -/
inductive U where
  | non | bl (b : Bool) | int (i : Int) | str (x : Str) | tup (l : List U) | ref (a : Addr) | rol (l : List U)

mutual
def U.dec : (x y : U) → Decidable (x = y)
  | .non, .non => .isTrue rfl
  | .bl a, .bl b => if h : a = b then .isTrue (by rw [h]) else .isFalse (fun e => h (by injection e))
  | .int a, .int b => if h : a = b then .isTrue (by rw [h]) else .isFalse (fun e => h (by injection e))
  | .str a, .str b => if h : a = b then .isTrue (by rw [h]) else .isFalse (fun e => h (by injection e))
  | .ref a, .ref b => if h : a = b then .isTrue (by rw [h]) else .isFalse (fun e => h (by injection e))
  | .tup a, .tup b => match U.decL a b with
    | .isTrue h => .isTrue (by rw [h])
    | .isFalse h => .isFalse (fun e => h (by injection e))
  | .rol a, .rol b => match U.decL a b with
    | .isTrue h => .isTrue (by rw [h])
    | .isFalse h => .isFalse (fun e => h (by injection e))
  | .non, .bl _ => .isFalse (fun e => nomatch e)
  | .non, .int _ => .isFalse (fun e => nomatch e)
  | .non, .str _ => .isFalse (fun e => nomatch e)
  | .non, .tup _ => .isFalse (fun e => nomatch e)
  | .non, .ref _ => .isFalse (fun e => nomatch e)
  | .non, .rol _ => .isFalse (fun e => nomatch e)
  | .bl _, .non => .isFalse (fun e => nomatch e)
  | .bl _, .int _ => .isFalse (fun e => nomatch e)
  | .bl _, .str _ => .isFalse (fun e => nomatch e)
  | .bl _, .tup _ => .isFalse (fun e => nomatch e)
  | .bl _, .ref _ => .isFalse (fun e => nomatch e)
  | .bl _, .rol _ => .isFalse (fun e => nomatch e)
  | .int _, .non => .isFalse (fun e => nomatch e)
  | .int _, .bl _ => .isFalse (fun e => nomatch e)
  | .int _, .str _ => .isFalse (fun e => nomatch e)
  | .int _, .tup _ => .isFalse (fun e => nomatch e)
  | .int _, .ref _ => .isFalse (fun e => nomatch e)
  | .int _, .rol _ => .isFalse (fun e => nomatch e)
  | .str _, .non => .isFalse (fun e => nomatch e)
  | .str _, .bl _ => .isFalse (fun e => nomatch e)
  | .str _, .int _ => .isFalse (fun e => nomatch e)
  | .str _, .tup _ => .isFalse (fun e => nomatch e)
  | .str _, .ref _ => .isFalse (fun e => nomatch e)
  | .str _, .rol _ => .isFalse (fun e => nomatch e)
  | .tup _, .non => .isFalse (fun e => nomatch e)
  | .tup _, .bl _ => .isFalse (fun e => nomatch e)
  | .tup _, .int _ => .isFalse (fun e => nomatch e)
  | .tup _, .str _ => .isFalse (fun e => nomatch e)
  | .tup _, .ref _ => .isFalse (fun e => nomatch e)
  | .tup _, .rol _ => .isFalse (fun e => nomatch e)
  | .ref _, .non => .isFalse (fun e => nomatch e)
  | .ref _, .bl _ => .isFalse (fun e => nomatch e)
  | .ref _, .int _ => .isFalse (fun e => nomatch e)
  | .ref _, .str _ => .isFalse (fun e => nomatch e)
  | .ref _, .tup _ => .isFalse (fun e => nomatch e)
  | .ref _, .rol _ => .isFalse (fun e => nomatch e)
  | .rol _, .non => .isFalse (fun e => nomatch e)
  | .rol _, .bl _ => .isFalse (fun e => nomatch e)
  | .rol _, .int _ => .isFalse (fun e => nomatch e)
  | .rol _, .str _ => .isFalse (fun e => nomatch e)
  | .rol _, .tup _ => .isFalse (fun e => nomatch e)
  | .rol _, .ref _ => .isFalse (fun e => nomatch e)
def U.decL : (x y : List U) → Decidable (x = y)
  | [], [] => .isTrue rfl
  | [], _ :: _ => .isFalse (fun e => nomatch e)
  | _ :: _, [] => .isFalse (fun e => nomatch e)
  | a :: x, b :: y => match U.dec a b with
    | .isFalse h => .isFalse (fun e => h (by injection e))
    | .isTrue h => match U.decL x y with
      | .isFalse k => .isFalse (fun e => k (by injection e))
      | .isTrue k => .isTrue (by rw [h, k])
end
instance : DecidableEq U := U.dec

/-! ### values and the heap -/
/-- a tuple that was laid -/
def Tp (K : Fg) (H : Hp) (a : Addr) (vs : List V) : Prop :=
  H a = some (.tup vs)
theorem Tp.sq {K : Fg} {H : Hp} {a : Addr} {vs : List V} (h : Tp K H a vs) : SqT K H a vs := .inl (.inl h)
/-- a list that is never written -/
def Rl (K : Fg) (H : Hp) (a : Addr) (vs : List V) : Prop :=
  (∃ o, H a = some (.frz o (.lst vs))) ∨ ∃ (o : Obj) (its : Array Value) (n : Nat), K.lookup a = some o ∧ o.cls = .type "list" ∧ o.dict = none ∧ o.data = .seq its n ∧ its.size ≤ sizeLine ∧ Vals vs its.toList
theorem Rl.sq {K : Fg} {H : Hp} {a : Addr} {vs : List V} (h : Rl K H a vs) : SqL K H a vs := h.elim (fun h => .inl (.inr h)) .inr

mutual
inductive Rel (K : Fg) (H : Hp) : V → U → Prop
  | non : Rel K H .non .non
  | bl (b : Bool) : Rel K H (.bl b) (.bl b)
  | int (i : Int) : Rel K H (.int i) (.int i)
  | str (x : Str) : Rel K H (.str x) (.str x)
  | tup {a : Addr} {vs : List V} {us : List U} : Tp K H a vs → RelL K H vs us → Rel K H (.ref a) (.tup us)
  | rol {a : Addr} {vs : List V} {us : List U} : Rl K H a vs → RelL K H vs us → Rel K H (.ref a) (.rol us)
  | ref (a : Addr) : Rel K H (.ref a) (.ref a)
inductive RelL (K : Fg) (H : Hp) : List V → List U → Prop
  | nil : RelL K H [] []
  | cons {v : V} {vs : List V} {u : U} {us : List U} : Rel K H v u → RelL K H vs us → RelL K H (v :: vs) (u :: us)
end

/-- what may change -/
inductive MO where
  | lst (us : List U)
  /-- z: walked at the moment; t: its keys are tuples -/
  | dct (z t : Bool) (ks : List (U × U))
abbrev Hm := Addr → Option MO
def um (M : Hm) (a : Addr) (o : MO) : Hm := fun b => if b = a then some o else M b
theorem um_same {M : Hm} {a : Addr} {o : MO} : um M a o a = some o := if_pos rfl
theorem um_ne {M : Hm} {a b : Addr} {o : MO} (h : b ≠ a) : um M a o b = M b := if_neg h
theorem um_um {M : Hm} {a : Addr} {o o' : MO} : um (um M a o) a o' = um M a o' := by
  funext b; unfold um; split <;> rfl
theorem um_comm {M : Hm} {a b : Addr} {o o' : MO} (h : a ≠ b) : um (um M a o) b o' = um (um M b o') a o := by
  funext c; unfold um
  by_cases h1 : c = b
  · subst h1
    rw [if_pos rfl, if_neg (fun e => h e.symm), if_pos rfl]
  · rw [if_neg h1]
    by_cases h2 : c = a
    · rw [if_pos h2, if_pos h2]
    · rw [if_neg h2, if_neg h2, if_neg h1]
theorem um_self {M : Hm} {a : Addr} {o : MO} (h : M a = some o) : um M a o = M := by
  funext b; unfold um
  by_cases e : b = a
  · rw [if_pos e, e, h]
  · rw [if_neg e]

def keyU : Key → U
  | .inl i => .int i
  | .inr x => .str x
theorem keyU_inj {a b : Key} (e : keyU a = keyU b) : a = b := by
  cases a <;> cases b <;> first | (injection e with e; rw [e]) | cases e
theorem keysU_inj : ∀ {a b : List Key}, a.map keyU = b.map keyU → a = b
  | [], [], _ => rfl
  | [], _ :: _, e => by cases e
  | _ :: _, [], e => by cases e
  | x :: xs, y :: ys, e => by
    rw [List.map_cons, List.map_cons] at e
    injection e with e1 e2
    rw [keyU_inj e1, keysU_inj e2]

/-- two rows of entries -/
def RelK (K : Fg) (H : Hp) : List (Key × V) → List (U × U) → Prop := Paired fun p q => q.1 = keyU p.1 ∧ Rel K H p.2 q.2
def RelT (K : Fg) (H : Hp) : List (List Key × V) → List (U × U) → Prop := Paired fun p q => q.1 = .tup (p.1.map keyU) ∧ Rel K H p.2 q.2
def fz (z : Bool) (o : Option HO) (u : HO) : Prop := if z = true then ∃ ob, o = some (.frz ob u) else o = some u

def OR (K : Fg) (H : Hp) (a : Addr) : MO → Prop
  | .lst us => ∃ vs, H a = some (.lst vs) ∧ RelL K H vs us
  | .dct z false ks => ∃ kvs, fz z (H a) (.dK kvs) ∧ RelK K H kvs ks
  | .dct z true ks => ∃ kvs, fz z (H a) (.dT kvs) ∧ RelT K H kvs ks
def Sim (K : Fg) (H : Hp) (M : Hm) : Prop := ∀ a o, M a = some o → OR K H a o
/-- what is not among M's things stays as it is; so does what is walked -/
structure Stp (H : Hp) (M : Hm) (H' : Hp) (M' : Hm) : Prop where
  keep : ∀ a o, H a = some o → M a = none → H' a = some o ∧ M' a = none
  lock : ∀ a t ks, M a = some (.dct true t ks) → H' a = H a ∧ (M' a = M a ∨ M' a = none)

theorem Stp.refl (H : Hp) (M : Hm) : Stp H M H M := ⟨fun _ _ h n => ⟨h, n⟩, fun _ _ _ _ => ⟨rfl, .inl rfl⟩⟩

theorem fz_some {z : Bool} {o : Option HO} {u : HO} (h : fz z o u) : ∃ x, o = some x := by
  unfold fz at h
  cases z with
  | true => obtain ⟨_, e⟩ := (show ∃ ob, o = some (.frz ob u) from h); exact ⟨_, e⟩
  | false => exact ⟨_, h⟩
theorem OR.has {K : Fg} {H : Hp} {a : Addr} {o : MO} (h : OR K H a o) : ∃ x, H a = some x := by
  cases o with
  | lst us => obtain ⟨vs, e, _⟩ := h; exact ⟨_, e⟩
  | dct z t ks =>
    cases t with
    | false => obtain ⟨kvs, e, _⟩ := h; exact fz_some e
    | true => obtain ⟨kvs, e, _⟩ := h; exact fz_some e
theorem Stp.trans {K : Fg} {H H1 H2 : Hp} {M M1 M2 : Hm} (S : Sim K H M) (a : Stp H M H1 M1) (b : Stp H1 M1 H2 M2) : Stp H M H2 M2 :=
  ⟨fun x o h n => let ⟨h1, n1⟩ := a.keep x o h n; b.keep x o h1 n1, fun x t ks e => by
    obtain ⟨e1, e2⟩ := a.lock x t ks e
    rcases e2 with e2 | e2
    · obtain ⟨f1, f2⟩ := b.lock x t ks (by rw [e2]; exact e)
      exact ⟨f1.trans e1, by rw [← e2]; exact f2⟩
    · obtain ⟨o, ho⟩ := (S x _ e).has
      obtain ⟨f1, f2⟩ := b.keep x o (by rw [e1]; exact ho) e2
      exact ⟨by rw [f1, ho], .inr f2⟩⟩
theorem Sim.fr {K : Fg} {H : Hp} {M : Hm} (S : Sim K H M) {a : Addr} (h : H a = none) : M a = none := by
  cases e : M a with
  | none => rfl
  | some o =>
    obtain ⟨x, q⟩ := (S a o e).has
    rw [h] at q
    cases q
theorem fz_tup {z : Bool} {o : Option HO} {u : HO} {vs : List V} (h : fz z o u) (hu : ∀ xs, u ≠ .tup xs) : o ≠ some (.tup vs) := fun e => by
  unfold fz at h
  cases z with
  | true =>
    obtain ⟨_, q⟩ := (show ∃ ob, o = some (.frz ob u) from h)
    rw [e] at q
    cases q
  | false =>
    have q : o = some u := h
    rw [e] at q
    cases q
    exact hu _ rfl
theorem fz_rol {z : Bool} {o : Option HO} {u : HO} {ob : Obj} {vs : List V} (h : fz z o u) (hu : ∀ xs, u ≠ .lst xs) (hf : ∀ o' x, u ≠ .frz o' x) : o ≠ some (.frz ob (.lst vs)) := fun e => by
  unfold fz at h
  cases z with
  | true =>
    obtain ⟨_, q⟩ := (show ∃ ob, o = some (.frz ob u) from h)
    rw [e] at q
    cases q
    exact hu _ rfl
  | false =>
    have q : o = some u := h
    rw [e] at q
    cases q
    exact hf _ _ rfl
theorem Sim.noTup {K : Fg} {H : Hp} {M : Hm} (S : Sim K H M) {a : Addr} {vs : List V} (h : H a = some (.tup vs)) : M a = none := by
  cases e : M a with
  | none => rfl
  | some o =>
    have q := S a o e
    cases o with
    | lst us =>
      obtain ⟨_, e2, _⟩ := q
      rw [h] at e2
      cases e2
    | dct z t ks =>
      cases t with
      | false => obtain ⟨kvs, e2, _⟩ := q; exact absurd h (fz_tup e2 fun _ x => nomatch x)
      | true => obtain ⟨kvs, e2, _⟩ := q; exact absurd h (fz_tup e2 fun _ x => nomatch x)
theorem Sim.noRol {K : Fg} {H : Hp} {M : Hm} (S : Sim K H M) {a : Addr} {ob : Obj} {vs : List V} (h : H a = some (.frz ob (.lst vs))) : M a = none := by
  cases e : M a with
  | none => rfl
  | some o =>
    have q := S a o e
    cases o with
    | lst us =>
      obtain ⟨_, e2, _⟩ := q
      rw [h] at e2
      cases e2
    | dct z t ks =>
      cases t with
      | false => obtain ⟨kvs, e2, _⟩ := q; exact absurd h (fz_rol e2 (fun _ x => nomatch x) fun _ _ x => nomatch x)
      | true => obtain ⟨kvs, e2, _⟩ := q; exact absurd h (fz_rol e2 (fun _ x => nomatch x) fun _ _ x => nomatch x)
theorem Tp.stp {K : Fg} {H H' : Hp} {M M' : Hm} (S : Sim K H M) (t : Stp H M H' M') {a : Addr} {vs : List V} (h : Tp K H a vs) : Tp K H' a vs := by
  exact (t.keep a _ h (S.noTup h)).1
theorem Rl.stp {K : Fg} {H H' : Hp} {M M' : Hm} (S : Sim K H M) (t : Stp H M H' M') {a : Addr} {vs : List V} (h : Rl K H a vs) : Rl K H' a vs := by
  rcases h with ⟨o, h⟩ | h
  · exact .inl ⟨o, (t.keep a _ h (S.noRol h)).1⟩
  · exact .inr h
mutual
theorem Rel.stp {K : Fg} {H H' : Hp} {M M' : Hm} (S : Sim K H M) (t : Stp H M H' M') {v : V} {u : U} (h : Rel K H v u) : Rel K H' v u := by
  cases h with
  | non => exact .non
  | bl b => exact .bl b
  | int i => exact .int i
  | str x => exact .str x
  | tup h1 h2 => exact .tup (h1.stp S t) (h2.stp S t)
  | rol h1 h2 => exact .rol (h1.stp S t) (h2.stp S t)
  | ref a => exact .ref a
theorem RelL.stp {K : Fg} {H H' : Hp} {M M' : Hm} (S : Sim K H M) (t : Stp H M H' M') {v : List V} {u : List U} (h : RelL K H v u) : RelL K H' v u := by
  cases h with
  | nil => exact .nil
  | cons h1 h2 => exact .cons (h1.stp S t) (h2.stp S t)
end
end Pl

set_option maxHeartbeats 4000000
/-! the syntax and what it asks -/
namespace Pl
open PySem L2

inductive Bop where | add | sub | mul | fdiv | mod | pow | shl | shr | band | bor
  deriving DecidableEq
inductive Cop where | eq | ne | lt | le | gt | ge | isin | notin
  deriving DecidableEq
/-- built-in functions and classes that are called -/
inductive Bfn where | len | list | tuple | int | abs | max | min | sorted | sum | all | any | set | str | dict | bool
  deriving DecidableEq
/-- methods of built-in types -/
inductive Mfn where | append | extend | pop | popAt | split | get1 | get2 | setdefault | index | join | insert | remove | items | pop2 | isalpha | islower | replace
  deriving DecidableEq
/-- targets: one name, a flat tuple of names -/
inductive Tg where | one (i : Nat) | many (is : List Nat)
  deriving DecidableEq
def Tg.slots : Tg → List Nat
  | .one i => [i]
  | .many is => is

inductive E where
  | var (i : Nat) | int (i : Int) | str (x : Str) | bl (b : Bool) | non
  | nil | cons (a b : E)
  | tup (es : E) | lst (es : E) | dnew (t : Bool)
  | bin (op : Bop) (a b : E) | neg (a : E)
  | cmp (op : Cop) (a b : E) | chain (o1 o2 : Cop) (a b c : E)
  | isN (a : E) | notN (a : E) | isB (neg b : Bool) (a : E)
  | ands (es : E) | ors (es : E) | not (a : E) | ite (c a b : E)
  | ix (a i : E) | slice (a lo hi : E)
  | call (f : Nat) (es : E) | blt (f : Bfn) (es : E) | mth (m : Mfn) (o es : E) | isinst (a : E) (t : String)
  | comp (own : List (Str × Nat)) (tg : Tg) (it c elt : E)
  | iSeq (a : E) | iRange (a : E) | iRange2 (a b : E) | iEnum (a : E) | iKeys (a : E)
  deriving DecidableEq

inductive S where
  | skip | seq (a b : S)
  | asg (i : Nat) (e : E) | asgT (is : List Nat) (e : E) | par (i j : Nat) (a b : E)
  | setIx (o i e : E) | augV (i : Nat) (op : Bop) (e : E) | augIx (o i : E) (op : Bop) (e : E)
  | ifs (c : E) (a b : S) | for_ (tg : Tg) (it : E) (b : S) | whl (c : E) (b : S)
  | ret (e : E) | retN | brk | cnt | expr (e : E) | nvr
  deriving DecidableEq

abbrev SU := List (Option U)
abbrev QU := U → Hm → Prop
abbrev WE := SU → Hm → QU → Prop
abbrev WT := SU → Hm → (Bool → Hm → Prop) → Prop
abbrev WL := SU → Hm → (List U → Hm → Prop) → Prop
abbrev WO := SU → Hm → (Option Int → Hm → Prop) → Prop
/-- what is walked: its items, what must stay, how an exit is reached -/
abbrev WI := SU → Hm → (List U → (Hm → Prop) → ((Hm → Prop) → Hm → Prop) → Hm → Prop) → Prop

def LIM : Nat := 100000

/-! ### data -/
def okS (x : Str) : Bool := x.cps.all (· < 0x110000)
def U.ok : Nat → U → Bool
  | _, .non => true
  | _, .int _ => true
  | _, .str x => okS x
  | n + 1, .tup l => l.all (U.ok n)
  | _, _ => false
def okU (x : U) : Bool := x.ok 60
def okL (l : List U) : Bool := l.all (U.ok 59)

def eqW (x y : U) (M : Hm) (Q : Bool → Hm → Prop) : Prop := match x, y with
  | .bl a, .bl b => Q (a == b) M
  | .int a, .int b => Q (decide (a = b)) M
  | .str a, .str b => Q (decide (a = b)) M
  | .ref p, .ref q => ∃ us ws, M p = some (.lst us) ∧ M q = some (.lst ws) ∧ okL us = true ∧ okL ws = true ∧ Q (decide (us = ws)) M
  | x, y => okU x = true ∧ okU y = true ∧ Q (decide (x = y)) M

def dfind (ks : List (U × U)) (k : U) : Option U := (ks.find? fun p => decide (p.1 = k)).map (·.2)
def dput (ks : List (U × U)) (k v : U) : List (U × U) := if (dfind ks k).isSome = true then ks.map fun p => if p.1 = k then (p.1, v) else p else ks ++ [(k, v)]
/-- a key of ints and texts | of tuples of such -/
def isKey : U → Bool
  | .int _ => true
  | .str _ => true
  | _ => false
def isKeyT : U → Bool
  | .tup l => l.all isKey
  | _ => false
def keyFor (t : Bool) (k : U) : Bool := match t with
  | true => isKeyT k
  | false => isKey k

def inW (neg : Bool) (x y : U) (M : Hm) (Q : Bool → Hm → Prop) : Prop := match y with
  | .tup l => okU x = true ∧ okL l = true ∧ (l.all isKey = true ∧ isKey x = true) ∧ Q (if neg then !decide (x ∈ l) else decide (x ∈ l)) M
  | .ref p => (∃ us, M p = some (.lst us) ∧ okU x = true ∧ okL us = true ∧ Q (if neg then !decide (x ∈ us) else decide (x ∈ us)) M) ∨
      ∃ z t ks, M p = some (.dct z t ks) ∧ keyFor t x = true ∧ Q (if neg then !(dfind ks x).isSome else (dfind ks x).isSome) M
  | _ => False

def cmpW (op : Cop) (x y : U) (M : Hm) (Q : Bool → Hm → Prop) : Prop := match op with
  | .eq => eqW x y M Q
  | .ne => eqW x y M fun b M => Q (!b) M
  | .lt => (match x, y with | .int i, .int j => Q (decide (i < j)) M | _, _ => False)
  | .le => (match x, y with | .int i, .int j => Q (decide (i ≤ j)) M | _, _ => False)
  | .gt => (match x, y with | .int i, .int j => Q (decide (j < i)) M | _, _ => False)
  | .ge => (match x, y with | .int i, .int j => Q (decide (j ≤ i)) M | _, _ => False)
  | .isin => inW false x y M Q
  | .notin => inW true x y M Q

def binW (op : Bop) (x y : U) (M : Hm) (Q : QU) : Prop := match op, x, y with
  | .add, .int i, .int j => Q (.int (i + j)) M
  | .sub, .int i, .int j => Q (.int (i - j)) M
  | .mul, .int i, .int j => CMul i j ∧ Q (.int (i * j)) M
  | .fdiv, .int i, .int j => CDiv i j ∧ Q (.int (i / j)) M
  | .mod, .int i, .int j => 0 < j ∧ Q (.int (i % j)) M
  | .pow, .int i, .int j => CPow i j ∧ Q (.int (i ^ j.toNat)) M
  | .shl, .int i, .int j => CPow i j ∧ Q (.int (i * 2 ^ j.toNat)) M
  | .shr, .int i, .int j => 0 ≤ j ∧ Q (.int (i / 2 ^ j.toNat)) M
  | .band, .int i, .int j => Q (.int (Builtin.bitAnd i j)) M
  | .bor, .int i, .int j => Q (.int (Builtin.bitOr i j)) M
  | .add, .str a, .str b => a.length + b.length ≤ LIM ∧ Q (.str (a ++ b)) M
  | .add, .tup a, .tup b => a.length + b.length ≤ LIM ∧ Q (.tup (a ++ b)) M
  | .add, .ref p, .ref q => ∃ us ws, M p = some (.lst us) ∧ M q = some (.lst ws) ∧ us.length + ws.length ≤ LIM ∧ ∀ a, M a = none → Q (.ref a) (um M a (.lst (us ++ ws)))
  | _, _, _ => False

def truW (x : U) (M : Hm) (Q : Bool → Hm → Prop) : Prop := match x with
  | .bl b => Q b M
  | .int i => Q (i != 0) M
  | .str s => s.length ≤ LIM ∧ Q (s.length != 0) M
  | .non => Q false M
  | .tup l => Q (!l.isEmpty) M
  | .ref p => (∃ us, M p = some (.lst us) ∧ Q (!us.isEmpty) M) ∨ ∃ ks, M p = some (.dct false false ks) ∧ Q (!ks.isEmpty) M
  | .rol _ => False

def ixW (x i : U) (M : Hm) (Q : QU) : Prop := match x with
  | .tup l => ∃ j v, i = .int j ∧ atI l j = some v ∧ Q v M
  | .ref p => (∃ us j v, M p = some (.lst us) ∧ i = .int j ∧ atI us j = some v ∧ Q v M) ∨ ∃ z t ks v, M p = some (.dct z t ks) ∧ keyFor t i = true ∧ dfind ks i = some v ∧ Q v M
  | .str z => ∃ j c, i = .int j ∧ z.length ≤ LIM ∧ atI z.cps.toList j = some c ∧ Q (.str ⟨#[c]⟩) M
  | _ => False
/-- what an augmented store reads -/
def getW (x i : U) (M : Hm) (Q : QU) : Prop := match x with
  | .ref p => (∃ us j v, M p = some (.lst us) ∧ i = .int j ∧ atI us j = some v ∧ Q v M) ∨ ∃ z t ks v, M p = some (.dct z t ks) ∧ keyFor t i = true ∧ dfind ks i = some v ∧ Q v M
  | _ => False
def cutU {α : Type} (xs : List α) (lo hi : Option Int) : List α := (xs.drop (HT.sIx xs.length 0 lo)).take (HT.sIx xs.length xs.length hi - HT.sIx xs.length 0 lo)
def sliceW (x : U) (lo hi : Option Int) (M : Hm) (Q : QU) : Prop := match x with
  | .tup l => Q (.tup (cutU l lo hi)) M
  | .ref p => ∃ us, M p = some (.lst us) ∧ ∀ a, M a = none → Q (.ref a) (um M a (.lst (cutU us lo hi)))
  | _ => False
def setW (x i v : U) (M : Hm) (Q : Hm → Prop) : Prop := match x with
  | .ref p => (∃ us j k, M p = some (.lst us) ∧ i = .int j ∧ ixN us.length j = some k ∧ Q (um M p (.lst (us.set k v)))) ∨
      ∃ t ks, M p = some (.dct false t ks) ∧ keyFor t i = true ∧ ks.length < LIM ∧ Q (um M p (.dct false t (dput ks i v)))
  | _ => False

/-- a row without repeats of the same ints (sorted) -/
def bltW (f : Bfn) (xs : List U) (M : Hm) (Q : QU) : Prop := match f, xs with
  | .len, [.tup l] => Q (.int l.length) M
  | .len, [.str s] => s.length ≤ LIM ∧ Q (.int s.length) M
  | .len, [.ref p] => (∃ us, M p = some (.lst us) ∧ Q (.int us.length) M) ∨ ∃ ks, M p = some (.dct false false ks) ∧ Q (.int ks.length) M
  | .list, [.tup l] => ∀ a, M a = none → Q (.ref a) (um M a (.lst l))
  | .list, [.ref p] => (∃ us, M p = some (.lst us) ∧ ∀ a, M a = none → Q (.ref a) (um M a (.lst us))) ∨
      ∃ ks, M p = some (.dct false false ks) ∧ ∀ a, M a = none → Q (.ref a) (um M a (.lst (ks.map (·.1))))
  | .tuple, [.tup l] => Q (.tup l) M
  | .tuple, [.ref p] => ∃ us, M p = some (.lst us) ∧ Q (.tup us) M
  | .int, [.int i] => Q (.int i) M
  | .int, [.bl b] => Q (.int (if b then 1 else 0)) M
  | .abs, [.int i] => Q (.int (if i < 0 then -i else i)) M
  | .max, [.int i, .int j] => Q (.int (if j > i then j else i)) M
  | .min, [.int i, .int j] => Q (.int (if j < i then j else i)) M
  | _, _ => False

def mthW (m : Mfn) (o : U) (xs : List U) (M : Hm) (Q : QU) : Prop := match m, o, xs with
  | .append, .ref p, [x] => ∃ us, M p = some (.lst us) ∧ us.length < LIM ∧ Q .non (um M p (.lst (us ++ [x])))
  | .extend, .ref p, [.ref q] => ∃ us ws, M p = some (.lst us) ∧ M q = some (.lst ws) ∧ us.length + ws.length ≤ LIM ∧ Q .non (um M p (.lst (us ++ ws)))
  | .pop, .ref p, [] => ∃ us x, M p = some (.lst us) ∧ us[us.length - 1]? = some x ∧ Q x (um M p (.lst us.dropLast))
  | .popAt, .ref p, [.int i] => ∃ us k x, M p = some (.lst us) ∧ us.length ≤ LIM ∧ ixN us.length i = some k ∧ us[k]? = some x ∧ Q x (um M p (.lst (us.eraseIdx k)))
  | .split, .str a, [.str b] => (b.length == 0) = false ∧ a.length + 2 ≤ LIM ∧ ∀ p, M p = none → Q (.ref p) (um M p (.lst ((Txt.split a b).map U.str)))
  | _, _, _ => False
/-- the receiver is of the method's type -/
def rcvW (m : Mfn) (x : U) (M : Hm) : Prop := match m with
  | .append | .extend | .pop | .popAt => ∃ p us, x = .ref p ∧ M p = some (.lst us)
  | .split => ∃ s, x = .str s
  | _ => False
def isTyW (x : U) (t : String) (M : Hm) (Q : Bool → Hm → Prop) : Prop := match x with
  | .non => Q (t == "NoneType") M
  | .bl _ => Q (t == "bool" || t == "int") M
  | .int _ => Q (t == "int") M
  | .str _ => Q (t == "str") M
  | .tup _ => Q (t == "tuple") M
  | .ref p => ∃ us, M p = some (.lst us) ∧ Q (t == "list") M
  | .rol _ => False

/-! ### loops -/
/-- the slots of these forgotten -/
def wipU (σ : SU) : List Nat → SU
  | [] => σ
  | v :: vs => (wipU σ vs).set v none
def setAll : List Nat → List U → SU → Option SU
  | [], [], σ => some σ
  | i :: is, u :: us, σ => setAll is us (σ.set i (some u))
  | _, _, _ => none
def tgW (tg : Tg) (x : U) (σ : SU) (Q : SU → Prop) : Prop := match tg with
  | .one i => Q (σ.set i (some x))
  | .many is => ∃ l σ', x = .tup l ∧ setAll is l σ = some σ' ∧ Q σ'
def forL (step : U → (SU → Hm → Prop) → SU → Hm → Prop) (g : Hm → Prop) (fin : SU → Hm → Prop) : List U → SU → Hm → Prop
  | [], σ, M => fin σ M
  | x :: xs, σ, M => step x (fun σ' M' => g M' ∧ forL step g fin xs σ' M') σ M
def compL (step : U → (Option U → Hm → Prop) → Hm → Prop) (g : Hm → Prop) (fin : List U → Hm → Prop) : List U → List U → Hm → Prop
  | [], acc, M => fin acc M
  | x :: xs, acc, M => step x (fun o M' => g M' ∧ (o.isSome = true → acc.length < LIM) ∧ compL step g fin xs (acc ++ o.toList) M') M

/-! ### expressions -/
structure Wp where
  e : WE
  t : WT
  l : WL
  /-- a row of conditions: the tests by and, by or; the values by and, by or -/
  ta : WT
  to : WT
  va : WE
  vo : WE
  i : WI
def fE : WE := fun _ _ _ => False
def fT : WT := fun _ _ _ => False
def fI : WI := fun _ _ _ => False
/-- an expression whose test is its value's truth -/
def Wp.ofE (f : WE) : Wp := ⟨f, fun σ M Q => f σ M fun x M1 => truW x M1 Q, fun _ _ _ => False, fT, fT, fE, fE, fI⟩
/-- a comparison and its like: the value a bool -/
def Wp.ofB (f : WT) : Wp := ⟨fun σ M Q => f σ M fun b M1 => Q (.bl b) M1, f, fun _ _ _ => False, fT, fT, fE, fE, fI⟩
/-- never a test -/
def Wp.noT (f : WE) : Wp := ⟨f, fT, fun _ _ _ => False, fT, fT, fE, fE, fI⟩
def Wp.ofI (f : WI) : Wp := ⟨fE, fT, fun _ _ _ => False, fT, fT, fE, fE, f⟩
def bW (f : WE) (σ : SU) (M : Hm) (Q : Bool → Hm → Prop) : Prop := f σ M fun x M1 => ∃ b, x = .bl b ∧ Q b M1
def isNil : E → Bool
  | .nil => true
  | _ => false
def partW (e : E) (f : WE) : WO := fun σ M Q => if isNil e = true then Q none M else f σ M fun x M1 => ∃ i, x = .int i ∧ Q (some i) M1

/-- how the callees keep their promises -/
abbrev CE := Nat → List U → Hm → QU → Prop

def seqI (x : U) (M : Hm) (Q : List U → (Hm → Prop) → ((Hm → Prop) → Hm → Prop) → Hm → Prop) : Prop := match x with
  | .tup l => Q l (fun _ => True) (fun P => P) M
  | .rol l => Q l (fun _ => True) (fun P => P) M
  | .ref p => ∃ us, M p = some (.lst us) ∧ Q us (fun M' => M' p = some (.lst us)) (fun P => P) M
  | _ => False
def enumU (l : List U) : List U := l.zipIdx.map fun p => .tup [.int (p.2 : Nat), p.1]
def rngU (a b : Int) : List U := (List.range (b - a).toNat).map fun i => .int (a + (i : Nat))

/-- a comprehension over what is walked -/
def compW (fi : WI) (tg : Tg) (fc : WT) (fe : WE) : WE := fun σ M Q => fi σ M fun items g ex M1 =>
  compL (fun x k M => tgW tg x (wipU σ tg.slots) fun σ2 => fc σ2 M fun b M2 => if b = true then fe σ2 M2 fun y M3 => k (some y) M3 else k none M2)
    g (fun acc M => ex (fun M => ∀ p, M p = none → Q (.ref p) (um M p (.lst acc))) M) items [] M1

def w (C : CE) : E → Wp
  | .var i => .ofE fun σ M Q => ∃ u, σ[i]? = some (some u) ∧ Q u M
  | .int i => .ofE fun _ M Q => Q (.int i) M
  | .str x => .ofE fun _ M Q => Q (.str x) M
  | .bl b => .ofE fun _ M Q => Q (.bl b) M
  | .non => .ofE fun _ M Q => Q .non M
  | .nil => ⟨fE, fT, fun _ M Q => Q [] M, fun _ M Q => Q true M, fun _ M Q => Q false M, fE, fE, fI⟩
  | .cons a b => ⟨fE, fT, fun σ M Q => (w C a).e σ M fun x M1 => (w C b).l σ M1 fun xs M2 => Q (x :: xs) M2,
      if isNil b = true then (w C a).t else fun σ M Q => (w C a).t σ M fun c M1 => if c = true then (w C b).ta σ M1 Q else Q false M1,
      if isNil b = true then (w C a).t else fun σ M Q => (w C a).t σ M fun c M1 => if c = true then Q true M1 else (w C b).to σ M1 Q,
      if isNil b = true then (w C a).e else fun σ M Q => bW (w C a).e σ M fun c M1 => if c = true then (w C b).va σ M1 Q else Q (.bl false) M1,
      if isNil b = true then (w C a).e else fun σ M Q => bW (w C a).e σ M fun c M1 => if c = true then Q (.bl true) M1 else (w C b).vo σ M1 Q, fI⟩
  | .tup es => .ofE fun σ M Q => (w C es).l σ M fun xs M1 => xs.length ≤ LIM ∧ Q (.tup xs) M1
  | .lst es => .ofE fun σ M Q => (w C es).l σ M fun xs M1 => xs.length ≤ LIM ∧ ∀ p, M1 p = none → Q (.ref p) (um M1 p (.lst xs))
  | .dnew t => .ofE fun _ M Q => ∀ p, M p = none → Q (.ref p) (um M p (.dct false t []))
  | .bin op a b => .ofE fun σ M Q => (w C a).e σ M fun x M1 => (w C b).e σ M1 fun y M2 => binW op x y M2 Q
  | .neg a => .ofE fun σ M Q => (w C a).e σ M fun x M1 => ∃ i, x = .int i ∧ Q (.int (-i)) M1
  | .cmp op a b => .ofB fun σ M Q => (w C a).e σ M fun x M1 => (w C b).e σ M1 fun y M2 => cmpW op x y M2 Q
  | .chain o1 o2 a b c => .ofB fun σ M Q => (w C a).e σ M fun x M1 => (w C b).e σ M1 fun y M2 => cmpW o1 x y M2 fun k M3 =>
      if k = true then (w C c).e σ M3 fun z M4 => cmpW o2 y z M4 Q else Q false M3
  | .isN a => .ofB fun σ M Q => (w C a).e σ M fun x M1 => Q (decide (x = .non)) M1
  | .notN a => .ofB fun σ M Q => (w C a).e σ M fun x M1 => Q (!decide (x = .non)) M1
  | .isB neg b a => .ofB fun σ M Q => (w C a).e σ M fun x M1 => ∃ c, x = .bl c ∧ Q (if neg then !decide (c = b) else decide (c = b)) M1
  | .ands es => ⟨(w C es).va, (w C es).ta, fun _ _ _ => False, fT, fT, fE, fE, fI⟩
  | .ors es => ⟨(w C es).vo, (w C es).to, fun _ _ _ => False, fT, fT, fE, fE, fI⟩
  | .not a => ⟨fun σ M Q => bW (w C a).e σ M fun b M1 => Q (.bl (!b)) M1, fun σ M Q => (w C a).t σ M fun b M1 => Q (!b) M1, fun _ _ _ => False, fT, fT, fE, fE, fI⟩
  | .ite c a b => .noT fun σ M Q => (w C c).t σ M fun k M1 => if k = true then (w C a).e σ M1 Q else (w C b).e σ M1 Q
  | .ix a i => .ofE fun σ M Q => (w C a).e σ M fun x M1 => (w C i).e σ M1 fun y M2 => ixW x y M2 Q
  | .slice a lo hi => .ofE fun σ M Q => (w C a).e σ M fun x M1 => partW lo (w C lo).e σ M1 fun l M2 => partW hi (w C hi).e σ M2 fun h M3 => sliceW x l h M3 Q
  | .call f es => .ofE fun σ M Q => (w C es).l σ M fun xs M1 => C f xs M1 Q
  | .blt f es => .ofE fun σ M Q => (w C es).l σ M fun xs M1 => bltW f xs M1 Q
  | .mth m o es => .ofE fun σ M Q => (w C o).e σ M fun x M1 => rcvW m x M1 ∧ (w C es).l σ M1 fun xs M2 => mthW m x xs M2 Q
  | .isinst a t => .ofB fun σ M Q => (w C a).e σ M fun x M1 => isTyW x t M1 Q
  | .comp _ tg it c elt => .ofE (compW (w C it).i tg (if isNil c = true then fun _ M Q => Q true M else (w C c).t) (w C elt).e)
  | .iSeq a => .ofI fun σ M Q => (w C a).e σ M fun x M1 => seqI x M1 Q
  | .iRange a => .ofI fun σ M Q => (w C a).e σ M fun x M1 => ∃ n, x = .int n ∧ n ≤ LIM ∧ -LIM ≤ n ∧ Q (rngU 0 n) (fun _ => True) (fun P => P) M1
  | .iRange2 a b => .ofI fun σ M Q => (w C a).e σ M fun x M1 => (w C b).e σ M1 fun y M2 => ∃ m n, x = .int m ∧ y = .int n ∧ -LIM ≤ m ∧ m ≤ LIM ∧ n ≤ LIM ∧ -LIM ≤ n ∧ Q (rngU m n) (fun _ => True) (fun P => P) M2
  | .iEnum a => .ofI fun σ M Q => (w C a).e σ M fun x M1 => seqI x M1 fun us g ex M2 => Q (enumU us) g ex M2
  | .iKeys a => .ofI fun σ M Q => ∃ i d t ks, a = .var i ∧ σ[i]? = some (some (.ref d)) ∧ M d = some (.dct false t ks) ∧
      Q (ks.map (·.1)) (fun M' => M' d = some (.dct true t ks)) (fun P M' => M' d = some (.dct true t ks) ∧ P (um M' d (.dct false t ks))) (um M d (.dct true t ks))

/-! ### statements -/
structure EndsU where
  nx : SU → Hm → Prop
  rt : QU
  bk : SU → Hm → Prop := fun _ _ => False
  ct : SU → Hm → Prop := fun _ _ => False

def wS (C : CE) : S → EndsU → SU → Hm → Prop
  | .skip, D, σ, M => D.nx σ M
  | .seq a b, D, σ, M => wS C a { D with nx := wS C b D } σ M
  | .asg i e, D, σ, M => (w C e).e σ M fun x M1 => D.nx (σ.set i (some x)) M1
  | .asgT is e, D, σ, M => (w C e).e σ M fun x M1 => ∃ l σ', x = .tup l ∧ setAll is l σ = some σ' ∧ D.nx σ' M1
  | .par i j a b, D, σ, M => (w C a).e σ M fun x M1 => (w C b).e σ M1 fun y M2 => D.nx ((σ.set i (some x)).set j (some y)) M2
  | .setIx o i e, D, σ, M => (w C e).e σ M fun v M1 => (w C o).e σ M1 fun x M2 => (w C i).e σ M2 fun y M3 => setW x y v M3 (D.nx σ)
  | .augV i op e, D, σ, M => ∃ x, σ[i]? = some (some x) ∧ (w C e).e σ M fun y M1 => ∃ a b, x = .int a ∧ y = .int b ∧ binW op x y M1 fun z M2 => D.nx (σ.set i (some z)) M2
  | .augIx o i op e, D, σ, M => (w C o).e σ M fun x M1 => (w C i).e σ M1 fun y M2 => getW x y M2 fun v M3 => (w C e).e σ M3 fun z M4 => ∃ a b, v = .int a ∧ z = .int b ∧ binW op v z M4 fun r M5 => setW x y r M5 (D.nx σ)
  | .ifs c a b, D, σ, M => (w C c).t σ M fun k M1 => if k = true then wS C a D σ M1 else wS C b D σ M1
  | .for_ tg it b, D, σ, M => (w C it).i σ M fun items g ex M1 =>
      forL (fun x nx σ M => tgW tg x σ fun σ2 => wS C b ⟨nx, fun u M => ex (D.rt u) M, fun σ M => ex (D.nx σ) M, nx⟩ σ2 M) g (fun σ M => ex (D.nx σ) M) items σ M1
  | .whl c b, D, σ, M => ∃ W : Nat → SU → Hm → Prop, (∃ m, W m σ M) ∧ ∀ m σ M, W m σ M → (w C c).t σ M fun k M1 =>
      if k = true then wS C b ⟨fun σ' M' => ∃ m', m' < m ∧ W m' σ' M', D.rt, D.nx, fun σ' M' => ∃ m', m' < m ∧ W m' σ' M'⟩ σ M1 else D.nx σ M1
  | .ret e, D, σ, M => (w C e).e σ M D.rt
  | .retN, D, _, M => D.rt .non M
  | .brk, D, σ, M => D.bk σ M
  | .cnt, D, σ, M => D.ct σ M
  | .expr e, D, σ, M => (w C e).e σ M fun _ M1 => D.nx σ M1
  | .nvr, _, _, _ => False

/-- one def: its name, its parameters, all its names by slot, its body -/
structure Df where
  name : Str
  ps : List Str
  N : List Str
  b : S
def startU (n : Nat) (us : List U) : SU := us.map some ++ List.replicate (n - us.length) none
/-- what is forgotten does not harm -/
def Sub (M' M : Hm) : Prop := ∀ a o, M' a = some o → M a = some o
/-- the promises at depth k -/
def Cs (T : List Df) : Nat → CE
  | 0 => fun _ _ _ _ => False
  | k + 1 => fun f us M Q => ∃ d, T[f]? = some d ∧ us.length = d.ps.length ∧
      wS (Cs T k) d.b ⟨fun _ M' => ∃ M'', Sub M'' M' ∧ Q .non M'', fun u M' => ∃ M'', Sub M'' M' ∧ Q u M'', fun _ _ => False, fun _ _ => False⟩ (startU d.N.length us) M
end Pl

set_option maxHeartbeats 4000000
/-! operations by values keep what they are said to do -/
namespace Pl
open PySem L2
theorem lim_line : LIM < sizeLine := by rw [sizeLine_eq]; decide
theorem le_line {n : Nat} (h : n ≤ LIM) : n ≤ sizeLine := Nat.le_trans h (Nat.le_of_lt lim_line)
theorem lt_line {n : Nat} (h : n < LIM) : n < sizeLine := Nat.lt_trans h lim_line

section
variable {K : Fg} {H H' : Hp} {M M' : Hm}
theorem RelL.length {vs : List V} {us : List U} (h : RelL K H vs us) : vs.length = us.length := by
  induction vs generalizing us with
  | nil => cases h; rfl
  | cons v vs ih => cases h with
    | cons a b => rw [List.length_cons, List.length_cons, ih b]
theorem RelL.get {vs : List V} {us : List U} {i : Nat} {u : U} (h : RelL K H vs us) (e : us[i]? = some u) : ∃ v, vs[i]? = some v ∧ Rel K H v u := by
  induction vs generalizing us i with
  | nil => cases h; simp at e
  | cons v vs ih => cases h with
    | cons a b => cases i with
      | zero => simp at e; subst e; exact ⟨v, rfl, a⟩
      | succ i => obtain ⟨x, q, r⟩ := ih b (by simpa using e); exact ⟨x, by simpa using q, r⟩
theorem RelL.getV {vs : List V} {us : List U} {i : Nat} {v : V} (h : RelL K H vs us) (e : vs[i]? = some v) : ∃ u, us[i]? = some u ∧ Rel K H v u := by
  induction vs generalizing us i with
  | nil => simp at e
  | cons y vs ih => cases h with
    | cons a b => cases i with
      | zero => simp at e; subst e; exact ⟨_, rfl, a⟩
      | succ i => obtain ⟨x, q, r⟩ := ih b (by simpa using e); exact ⟨x, by simpa using q, r⟩
theorem RelL.append {vs ws : List V} {us xs : List U} (h : RelL K H vs us) (k : RelL K H ws xs) : RelL K H (vs ++ ws) (us ++ xs) := by
  induction vs generalizing us with
  | nil => cases h; exact k
  | cons v vs ih => cases h with
    | cons a b => exact .cons a (ih b)
theorem RelL.take {vs : List V} {us : List U} (n : Nat) (h : RelL K H vs us) : RelL K H (vs.take n) (us.take n) := by
  induction n generalizing vs us with
  | zero => exact .nil
  | succ n ih => cases h with
    | nil => exact .nil
    | cons a b => exact .cons a (ih b)
theorem RelL.drop {vs : List V} {us : List U} (n : Nat) (h : RelL K H vs us) : RelL K H (vs.drop n) (us.drop n) := by
  induction n generalizing vs us with
  | zero => exact h
  | succ n ih => cases h with
    | nil => exact .nil
    | cons a b => exact ih b
theorem RelL.set {vs : List V} {us : List U} {v : V} {u : U} (k : Nat) (r : Rel K H v u) (h : RelL K H vs us) : RelL K H (vs.set k v) (us.set k u) := by
  induction k generalizing vs us with
  | zero => cases h with
    | nil => exact .nil
    | cons a b => exact .cons r b
  | succ n ih => cases h with
    | nil => exact .nil
    | cons a b => exact .cons a (ih b)
theorem RelL.eraseIdx {vs : List V} {us : List U} (k : Nat) (h : RelL K H vs us) : RelL K H (vs.eraseIdx k) (us.eraseIdx k) := by
  induction k generalizing vs us with
  | zero => cases h with
    | nil => exact .nil
    | cons a b => exact b
  | succ n ih => cases h with
    | nil => exact .nil
    | cons a b => exact .cons a (ih b)
theorem RelL.dropLast {vs : List V} {us : List U} (h : RelL K H vs us) : RelL K H vs.dropLast us.dropLast := by
  rw [List.dropLast_eq_take, List.dropLast_eq_take, h.length]
  exact h.take _
theorem RelL.strs : ∀ xs : List Str, RelL K H (xs.map V.str) (xs.map U.str)
  | [] => .nil
  | x :: xs => .cons (.str x) (RelL.strs xs)
theorem RelL.nil_iff {vs : List V} {us : List U} (h : RelL K H vs us) : vs = [] ↔ us = [] := by
  cases h <;> simp
theorem RelL.isEmpty {vs : List V} {us : List U} (h : RelL K H vs us) : vs.isEmpty = us.isEmpty := by
  cases h <;> rfl

/-! ### how the heap grows -/
theorem Paired.mapR {α β : Type} {F G : α → β → Prop} {xs : List α} {ys : List β} (h : Paired F xs ys) (k : ∀ a b, F a b → G a b) : Paired G xs ys := by
  induction h with
  | nil => exact .nil
  | cons a _ ih => exact .cons (k _ _ a) ih
theorem OR.stp (S : Sim K H M) (t : Stp H M H' M') {a : Addr} {o : MO} (e : H' a = H a) (h : OR K H a o) : OR K H' a o := by
  cases o with
  | lst us =>
    obtain ⟨vs, q, r⟩ := h
    exact ⟨vs, by rw [e]; exact q, r.stp S t⟩
  | dct z tt ks =>
    cases tt with
    | false => obtain ⟨kvs, q, r⟩ := h; exact ⟨kvs, by rw [e]; exact q, Paired.mapR r fun p q x => ⟨x.1, x.2.stp S t⟩⟩
    | true => obtain ⟨kvs, q, r⟩ := h; exact ⟨kvs, by rw [e]; exact q, Paired.mapR r fun p q x => ⟨x.1, x.2.stp S t⟩⟩
theorem Sim.to (S : Sim K H M) (t : Stp H M H' M') (h : ∀ a o, M' a = some o → (M a = some o ∧ H' a = H a) ∨ OR K H' a o) : Sim K H' M' := fun a o e => by
  rcases h a o e with ⟨e1, e2⟩ | q
  · exact (S a o e1).stp S t e2
  · exact q
theorem Stp.new {p : Addr} {o : HO} {m : MO} (S : Sim K H M) (hp : H p = none) : Stp H M (upd H p o) (um M p m) :=
  ⟨fun a x h n =>
    have ne : a ≠ p := ne_of_none h hp
    ⟨by rw [upd_ne ne]; exact h, by rw [um_ne ne]; exact n⟩, fun a t ks e => by
    obtain ⟨x, h⟩ := (S a _ e).has
    have ne : a ≠ p := ne_of_none h hp
    exact ⟨upd_ne ne, .inl (um_ne ne)⟩⟩
theorem Stp.newT {p : Addr} {o : HO} (S : Sim K H M) (hp : H p = none) : Stp H M (upd H p o) M :=
  ⟨fun a x h n => ⟨by rw [upd_ne (ne_of_none h hp)]; exact h, n⟩, fun a t ks e => by
    obtain ⟨x, h⟩ := (S a _ e).has
    exact ⟨upd_ne (ne_of_none h hp), .inl rfl⟩⟩
def unlocked : MO → Bool
  | .dct true _ _ => false
  | _ => true
theorem Stp.mut {p : Addr} {o : HO} {m m' : MO} (hp : M p = some m') (hu : unlocked m' = true := by rfl) : Stp H M (upd H p o) (um M p m) :=
  ⟨fun a x h n =>
    have ne : a ≠ p := fun e => by rw [e, hp] at n; cases n
    ⟨by rw [upd_ne ne]; exact h, by rw [um_ne ne]; exact n⟩, fun a t ks e => by
    have ne : a ≠ p := fun z => by
      rw [z, hp] at e
      cases e
      cases hu
    exact ⟨upd_ne ne, .inl (um_ne ne)⟩⟩
theorem Sim.new (S : Sim K H M) {p : Addr} {o : HO} {m : MO} (hp : H p = none) (new : OR K (upd H p o) p m) : Sim K (upd H p o) (um M p m) :=
  S.to (Stp.new S hp) fun a x e => by
    by_cases h : a = p
    · subst h
      rw [um_same] at e
      cases e
      exact .inr new
    · rw [um_ne h] at e
      exact .inl ⟨e, upd_ne h⟩
theorem Sim.newT (S : Sim K H M) {p : Addr} {vs : List V} (hp : H p = none) : Sim K (upd H p (.tup vs)) M :=
  S.to (Stp.newT S hp) fun a x e => .inl ⟨e, upd_ne fun z => by
    have q := S.fr hp
    rw [z, q] at e
    cases e⟩
theorem Sim.mut (S : Sim K H M) {p : Addr} {o : HO} {m m' : MO} (hp : M p = some m') (hu : unlocked m' = true) (new : OR K (upd H p o) p m) : Sim K (upd H p o) (um M p m) :=
  S.to (Stp.mut hp hu) fun a x e => by
    by_cases h : a = p
    · subst h
      rw [um_same] at e
      cases e
      exact .inr new
    · rw [um_ne h] at e
      exact .inl ⟨e, upd_ne h⟩
theorem Sim.sub (S : Sim K H M) (s : Sub M' M) : Sim K H M' := fun a o e => S a o (s a o e)
theorem Stp.sub (s : Sub M' M) : Stp H M H M' := ⟨fun a o h n => ⟨h, by
  cases e : M' a with
  | none => rfl
  | some x => rw [s a x e] at n; cases n⟩, fun a t ks e => ⟨rfl, by
  cases e2 : M' a with
  | none => exact .inr rfl
  | some x => exact .inl (s a x e2).symm⟩⟩
end

/-! ### continuations -/
def Cont (K : Fg) (H : Hp) (M : Hm) (Qu : QU) (Q : VK) : Prop := ∀ v H' u M', Stp H M H' M' → Sim K H' M' → Rel K H' v u → Qu u M' → Q v H'
def ContB (K : Fg) (H : Hp) (M : Hm) (Qu : Bool → Hm → Prop) (Q : Bool → Hp → Prop) : Prop := ∀ b H' M', Stp H M H' M' → Sim K H' M' → Qu b M' → Q b H'
def ContL (K : Fg) (H : Hp) (M : Hm) (Qu : List U → Hm → Prop) (Q : List V → Hp → Prop) : Prop := ∀ v H' u M', Stp H M H' M' → Sim K H' M' → RelL K H' v u → Qu u M' → Q v H'
section
variable {K : Fg} {H H' : Hp} {M M' : Hm} {Qu : QU} {Q : VK}
theorem Cont.at_ (c : Cont K H M Qu Q) (S : Sim K H M) {v : V} {u : U} (r : Rel K H v u) (q : Qu u M) : Q v H := c v H u M (Stp.refl H M) S r q
theorem Cont.bl (c : Cont K H M (fun u M => ∃ b, u = .bl b ∧ Qu u M) Q) : True := trivial
theorem Cont.tr {H1 : Hp} {M1 : Hm} (S0 : Sim K H M) (t : Stp H M H1 M1) (c : Cont K H M Qu Q) : Cont K H1 M1 Qu Q := fun v H' u M' t' S r q => c v H' u M' (t.trans S0 t') S r q
theorem ContB.tr {H1 : Hp} {M1 : Hm} {Qu : Bool → Hm → Prop} {Q : Bool → Hp → Prop} (S0 : Sim K H M) (t : Stp H M H1 M1) (c : ContB K H M Qu Q) : ContB K H1 M1 Qu Q := fun v H' M' t' S q => c v H' M' (t.trans S0 t') S q
theorem ContL.tr {H1 : Hp} {M1 : Hm} {Qu : List U → Hm → Prop} {Q : List V → Hp → Prop} (S0 : Sim K H M) (t : Stp H M H1 M1) (c : ContL K H M Qu Q) : ContL K H1 M1 Qu Q := fun v H' u M' t' S r q => c v H' u M' (t.trans S0 t') S r q
/-- a new tuple -/
theorem Cont.tup (c : Cont K H M Qu Q) (S : Sim K H M) {vs : List V} {us : List U} (r : RelL K H vs us) (q : Qu (.tup us) M) {p : Addr} (hp : H p = none) : Q (.ref p) (upd H p (.tup vs)) :=
  c _ _ (.tup us) M (Stp.newT S hp) (S.newT hp) (.tup upd_same (r.stp S (Stp.newT S hp))) q
/-- a new list -/
theorem Cont.lst (c : Cont K H M Qu Q) (S : Sim K H M) {vs : List V} {us : List U} (r : RelL K H vs us) (q : ∀ p, M p = none → Qu (.ref p) (um M p (.lst us))) {p : Addr} (hp : H p = none) : Q (.ref p) (upd H p (.lst vs)) :=
  c _ _ (.ref p) (um M p (.lst us)) (Stp.new S hp) (S.new (m := .lst us) hp ⟨vs, upd_same, r.stp S (Stp.new (m := .lst us) S hp)⟩) (.ref p) (q p (S.fr hp))
/-- a list changed -/
theorem Cont.mutL (c : Cont K H M Qu Q) (S : Sim K H M) {p : Addr} {ws : List U} {vs : List V} {us : List U} (hm : M p = some (.lst ws)) (r : RelL K H vs us) {v : V} {u : U} (rv : Rel K H v u) (q : Qu u (um M p (.lst us))) : Q v (upd H p (.lst vs)) :=
  c _ _ u (um M p (.lst us)) (Stp.mut hm) (S.mut (m := .lst us) hm rfl ⟨vs, upd_same, r.stp S (Stp.mut (m := .lst us) hm)⟩) (rv.stp S (Stp.mut (m := .lst us) hm)) q
theorem Rel.ref_lst {S : Sim K H M} {v : V} {p : Addr} (r : Rel K H v (.ref p)) : v = .ref p := by cases r; rfl
end
/-- the reading of a two-place operation -/
def R2s (K : Fg) (f : U → U → Hm → QU → Prop) : R2 := fun x y H Q => ∃ a b M Qu, Sim K H M ∧ Rel K H x a ∧ Rel K H y b ∧ f a b M Qu ∧ Cont K H M Qu Q
def bopOf : Bop → Operator
  | .add => .Add | .sub => .Sub | .mul => .Mult | .fdiv => .FloorDiv | .mod => .Mod | .pow => .Pow | .shl => .LShift | .shr => .RShift | .band => .BitAnd | .bor => .BitOr
def copOf : Cop → CmpOp
  | .eq => .Eq | .ne => .NotEq | .lt => .Lt | .le => .LtE | .gt => .Gt | .ge => .GtE | .isin => .In | .notin => .NotIn
section
variable {X : Cx}
theorem op_binS (op : Bop) : OpR X (binaryOp (bopOf op)) (R2s X.K (binW op)) := by
  intro pins s σ H x y v u Q I rx ry h
  obtain ⟨a, b, M, Qu, S, ra, rb, hf, c⟩ := h
  have int2 : ∀ {i j : Int}, a = .int i → b = .int j → x = .int i ∧ y = .int j := fun {i j} e1 e2 => by
    subst e1 e2
    cases ra
    cases rb
    exact ⟨rfl, rfl⟩
  unfold binW at hf
  split at hf
  · cases ra; cases rb; exact op_add pins s σ H _ _ v u Q I rx ry ⟨_, _, rfl, rfl, c.at_ S (.int _) hf⟩
  · cases ra; cases rb; exact op_sub pins s σ H _ _ v u Q I rx ry ⟨_, _, rfl, rfl, c.at_ S (.int _) hf⟩
  · cases ra; cases rb; exact op_mul pins s σ H _ _ v u Q I rx ry ⟨_, _, rfl, rfl, hf.1, c.at_ S (.int _) hf.2⟩
  · cases ra; cases rb; exact op_fdiv pins s σ H _ _ v u Q I rx ry ⟨_, _, rfl, rfl, hf.1, c.at_ S (.int _) hf.2⟩
  · cases ra; cases rb; exact op_mod pins s σ H _ _ v u Q I rx ry ⟨_, _, rfl, rfl, hf.1, c.at_ S (.int _) hf.2⟩
  · cases ra; cases rb; exact op_pow pins s σ H _ _ v u Q I rx ry ⟨_, _, rfl, rfl, hf.1, c.at_ S (.int _) hf.2⟩
  · cases ra; cases rb; exact op_shl pins s σ H _ _ v u Q I rx ry ⟨_, _, rfl, rfl, hf.1, c.at_ S (.int _) hf.2⟩
  · cases ra; cases rb; exact op_shr pins s σ H _ _ v u Q I rx ry ⟨_, _, rfl, rfl, hf.1, c.at_ S (.int _) hf.2⟩
  · cases ra; cases rb; exact op_and pins s σ H _ _ v u Q I rx ry ⟨_, _, rfl, rfl, c.at_ S (.int _) hf⟩
  · cases ra; cases rb; exact op_or pins s σ H _ _ v u Q I rx ry ⟨_, _, rfl, rfl, c.at_ S (.int _) hf⟩
  · cases ra; cases rb; exact op_add_str pins s σ H _ _ v u Q I rx ry ⟨_, _, rfl, rfl, le_line hf.1, c.at_ S (.str _) hf.2⟩
  · cases ra with
    | tup t1 r1 =>
      cases rb with
      | tup t2 r2 =>
        rename_i la lb p vs q ws
        refine op_catA pins s σ H _ _ v u Q I rx ry ⟨p, q, vs, ws, rfl, rfl, t1.sq, t2.sq, by rw [r1.length, r2.length]; exact le_line hf.1, fun e => ?_, fun _ e => ?_, fun _ _ n hn => c.tup S (r1.append r2) hf.2 hn⟩
        · have e1 : la = [] := r1.nil_iff.mp e
          have q2 := hf.2
          rw [e1, List.nil_append] at q2
          exact c.at_ S (.tup t2 r2) q2
        · have e1 : lb = [] := r2.nil_iff.mp e
          have q2 := hf.2
          rw [e1, List.append_nil] at q2
          exact c.at_ S (.tup t1 r1) q2
  · obtain ⟨us, ws, h1, h2, hl, hq⟩ := hf
    obtain ⟨vs, g1, r1⟩ := S _ _ h1
    obtain ⟨xs, g2, r2⟩ := S _ _ h2
    cases ra; cases rb
    exact op_cat pins s σ H _ _ v u Q I rx ry ⟨_, _, _, _, rfl, rfl, g1, g2, by rw [r1.length, r2.length]; exact le_line hl, fun n hn => c.lst S (r1.append r2) hq hn⟩
  · exact hf.elim
end
end Pl

set_option maxHeartbeats 4000000
/-! comparisons, truth, subscripts, stores, built-ins by values -/
namespace Pl
open PySem L2
mutual
def pd : U → PyData
  | .non => .none
  | .bl b => .bool b
  | .int i => .int i
  | .str x => .str x
  | .tup l => .tuple (pdL l)
  | .ref _ => .none
  | .rol _ => .none
def pdL : List U → List PyData
  | [] => []
  | x :: xs => pd x :: pdL xs
end
section
variable {K : Fg} {H H' : Hp} {M M' : Hm}
mutual
theorem ok_dp : ∀ (n : Nat) (u : U) (v : V), u.ok n = true → Rel K H v u → Dp K H v (pd u)
  | _, .non, _, _, r => by cases r; exact .non
  | _, .int i, _, _, r => by cases r; exact .int i
  | _, .str x, _, _, r => by cases r; exact .str x
  | n + 1, .tup l, _, h, r => by
    cases r with
    | tup t rl => exact .tup t.sq (ok_dpL n l _ (by simpa [U.ok] using h) rl)
  | 0, .tup l, _, h, r => by simp [U.ok] at h
  | _, .bl _, _, h, _ => by simp [U.ok] at h
  | _, .ref _, _, h, _ => by simp [U.ok] at h
  | _, .rol _, _, h, _ => by simp [U.ok] at h
theorem ok_dpL : ∀ (n : Nat) (l : List U) (vs : List V), (∀ x ∈ l, x.ok n = true) → RelL K H vs l → DpAll K H vs (pdL l)
  | _, [], _, _, r => by cases r; exact .nil
  | n, x :: xs, _, h, r => by
    cases r with
    | cons a b => exact .cons (ok_dp n x _ (h x List.mem_cons_self) a) (ok_dpL n xs _ (fun y hy => h y (List.mem_cons_of_mem _ hy)) b)
end
end
mutual
theorem ok_lay : ∀ (n : Nat) (u : U), u.ok n = true → (pd u).canLay0 = true ∧ (pd u).depth ≤ n
  | _, .non, _ => ⟨by simp [pd, PyData.canLay0], by simp [pd, PyData.depth]⟩
  | _, .int i, _ => ⟨by simp [pd, PyData.canLay0], by simp [pd, PyData.depth]⟩
  | _, .str x, h => ⟨by
    have q : okS x = true := by simpa [U.ok] using h
    simp only [pd, PyData.canLay0]
    exact q, by simp [pd, PyData.depth]⟩
  | n + 1, .tup l, h => by
    obtain ⟨a, b⟩ := ok_layL n l (by simpa [U.ok] using h)
    refine ⟨?_, ?_⟩
    · simp only [pd, PyData.canLay0]; exact a
    · simp only [pd, PyData.depth]; omega
  | 0, .tup l, h => by simp [U.ok] at h
  | _, .bl _, h => by simp [U.ok] at h
  | _, .ref _, h => by simp [U.ok] at h
  | _, .rol _, h => by simp [U.ok] at h
theorem ok_layL : ∀ (n : Nat) (l : List U), (∀ x ∈ l, x.ok n = true) → PyData.canLayAll0 (pdL l) = true ∧ PyData.depthAll (pdL l) ≤ n
  | _, [], _ => ⟨by simp [pdL, PyData.canLayAll0], by simp [pdL, PyData.depthAll]⟩
  | n, x :: xs, h => by
    obtain ⟨a, b⟩ := ok_lay n x (h x List.mem_cons_self)
    obtain ⟨c, d⟩ := ok_layL n xs (fun y hy => h y (List.mem_cons_of_mem _ hy))
    refine ⟨?_, ?_⟩
    · simp only [pdL, PyData.canLayAll0, a, c, Bool.and_self]
    · simp only [pdL, PyData.depthAll]; omega
end
mutual
theorem ok_eqv : ∀ (n : Nat) (u : U) (m : Nat) (x : U), u.ok n = true → x.ok m = true → PyData.eqv (pd u) (pd x) = decide (u = x)
  | _, .non, m, x, _, h => by cases x <;> first | (simp [pd, PyData.eqv]; done) | simp [U.ok] at h
  | _, .int i, m, x, _, h => by cases x <;> first | (simp [pd, PyData.eqv, Bool.beq_eq_decide_eq]; done) | simp [U.ok] at h
  | _, .str s, m, x, _, h => by cases x <;> first | (simp [pd, PyData.eqv, Bool.beq_eq_decide_eq]; done) | simp [U.ok] at h
  | n + 1, .tup l, m, x, g, h => by
    cases x with
    | tup l2 =>
      cases m with
      | zero => simp [U.ok] at h
      | succ m =>
        have q := ok_eqvL n l m l2 (by simpa [U.ok] using g) (by simpa [U.ok] using h)
        simp only [pd, PyData.eqv, q, U.tup.injEq]
    | bl _ => simp [U.ok] at h
    | ref _ => simp [U.ok] at h
    | rol _ => simp [U.ok] at h
    | _ => simp [pd, PyData.eqv]
  | 0, .tup l, _, _, h, _ => by simp [U.ok] at h
  | _, .bl _, _, _, h, _ => by simp [U.ok] at h
  | _, .ref _, _, _, h, _ => by simp [U.ok] at h
  | _, .rol _, _, _, h, _ => by simp [U.ok] at h
theorem ok_eqvL : ∀ (n : Nat) (l : List U) (m : Nat) (l2 : List U), (∀ x ∈ l, x.ok n = true) → (∀ x ∈ l2, x.ok m = true) → PyData.eqvAll (pdL l) (pdL l2) = decide (l = l2)
  | _, [], _, [], _, _ => by simp [pdL, PyData.eqvAll]
  | _, [], _, _ :: _, _, _ => by simp [pdL, PyData.eqvAll]
  | _, _ :: _, _, [], _, _ => by simp [pdL, PyData.eqvAll]
  | n, x :: xs, m, y :: ys, g, h => by
    have a := ok_eqv n x m y (g x List.mem_cons_self) (h y List.mem_cons_self)
    have b := ok_eqvL n xs m ys (fun z hz => g z (List.mem_cons_of_mem _ hz)) (fun z hz => h z (List.mem_cons_of_mem _ hz))
    simp only [pdL, PyData.eqvAll, a, b, List.cons.injEq, Bool.decide_and]
end
theorem ok_shaped {n : Nat} {u : U} (h : u.ok n = true) (hn : n ≤ 64) : SeqAt.shaped (pd u) = true := by
  obtain ⟨a, b⟩ := ok_lay n u h
  unfold SeqAt.shaped
  rw [a, Bool.true_and]
  exact decide_eq_true (by omega)
theorem okL_all {l : List U} (h : okL l = true) : ∀ x ∈ l, x.ok 59 = true := List.all_eq_true.mp h
theorem okL_shaped {l : List U} (h : okL l = true) : SeqAt.shaped (.list (pdL l)) = true := by
  obtain ⟨a, b⟩ := ok_layL 59 l (okL_all h)
  unfold SeqAt.shaped
  have e : (PyData.list (pdL l)).canLay0 = true := by simp only [PyData.canLay0]; exact a
  rw [e, Bool.true_and]
  exact decide_eq_true (by simp only [PyData.depth]; omega)
theorem any_eqv {x : U} (hx : okU x = true) : ∀ (l : List U), (∀ y ∈ l, y.ok 59 = true) → ((pdL l).any fun z => PyData.eqv z (pd x)) = decide (x ∈ l)
  | [], _ => by simp [pdL]
  | y :: ys, h => by
    have a := ok_eqv 59 y 60 x (h y List.mem_cons_self) hx
    have b := any_eqv hx ys fun z hz => h z (List.mem_cons_of_mem _ hz)
    rw [pdL, List.any_cons, a, b, ← Bool.decide_or]
    exact decide_eq_decide.mpr ⟨fun z => z.elim (fun e => by rw [e]; exact List.mem_cons_self) (List.mem_cons_of_mem _), fun z => (List.mem_cons.mp z).elim (fun e => .inl e.symm) .inr⟩

/-! ### keys -/
section
variable {K : Fg} {H H' : Hp} {M M' : Hm}
theorem isKey_of {u : U} {v : V} (h : isKey u = true) (r : Rel K H v u) : ∃ k : Key, u = keyU k ∧ v = kV k := by
  cases r with
  | int i => exact ⟨.inl i, rfl, rfl⟩
  | str x => exact ⟨.inr x, rfl, rfl⟩
  | _ => cases h
theorem isKeys_of : ∀ {us : List U} {vs : List V}, us.all isKey = true → RelL K H vs us → ∃ ks : List Key, us = ks.map keyU ∧ vs = ks.map kV
  | [], _, _, r => by cases r; exact ⟨[], rfl, rfl⟩
  | u :: us, _, h, r => by
    cases r with
    | cons a b =>
      rw [List.all_cons, Bool.and_eq_true] at h
      obtain ⟨k, e1, e2⟩ := isKey_of h.1 a
      obtain ⟨ks, f1, f2⟩ := isKeys_of h.2 b
      exact ⟨k :: ks, by rw [e1, f1]; rfl, by rw [e2, f2]; rfl⟩
theorem isKeyT_of {u : U} {v : V} (h : isKeyT u = true) (r : Rel K H v u) : ∃ (b : Addr) (ks : List Key), u = .tup (ks.map keyU) ∧ v = .ref b ∧ H b = some (.tup (ks.map kV)) := by
  cases r with
  | tup t rl =>
    obtain ⟨ks, e1, e2⟩ := isKeys_of h rl
    rename_i a vs us
    exact ⟨a, ks, by rw [e1], rfl, by rw [← e2]; exact t⟩
  | _ => cases h
theorem dfind_cons (p : U × U) (ks : List (U × U)) (k : U) : dfind (p :: ks) k = if p.1 = k then some p.2 else dfind ks k := by
  unfold dfind
  rw [List.find?_cons]
  by_cases h : p.1 = k
  · simp [h]
  · simp [h]
theorem RelK.find {kvs : List (Key × V)} {ks : List (U × U)} (h : RelK K H kvs ks) (k : Key) : (valV kvs k = none ∧ dfind ks (keyU k) = none) ∨ ∃ v u, valV kvs k = some v ∧ dfind ks (keyU k) = some u ∧ Rel K H v u := by
  unfold RelK at h
  induction h with
  | nil => exact .inl ⟨rfl, rfl⟩
  | @cons p q ps qs a _ ih =>
    rw [dfind_cons]
    by_cases e : p.1 = k
    · right
      refine ⟨p.2, q.2, valV_pos e, ?_, a.2⟩
      rw [if_pos (by rw [a.1, e])]
    · rw [valV_neg e, if_neg (fun z => e (keyU_inj (a.1.symm.trans z)))]
      exact ih
theorem RelT.find {kvs : List (List Key × V)} {ks : List (U × U)} (h : RelT K H kvs ks) (k : List Key) : (valV kvs k = none ∧ dfind ks (.tup (k.map keyU)) = none) ∨ ∃ v u, valV kvs k = some v ∧ dfind ks (.tup (k.map keyU)) = some u ∧ Rel K H v u := by
  unfold RelT at h
  induction h with
  | nil => exact .inl ⟨rfl, rfl⟩
  | @cons p q ps qs a _ ih =>
    rw [dfind_cons]
    by_cases e : p.1 = k
    · right
      refine ⟨p.2, q.2, valV_pos e, ?_, a.2⟩
      rw [if_pos (by rw [a.1, e])]
    · rw [valV_neg e, if_neg (fun z => e (keysU_inj (by
        have z2 := a.1.symm.trans z
        injection z2)))]
      exact ih
theorem Paired.app {α β : Type} {F : α → β → Prop} {xs xs' : List α} {ys ys' : List β} (h : Paired F xs ys) (k : Paired F xs' ys') : Paired F (xs ++ xs') (ys ++ ys') := by
  induction h with
  | nil => exact k
  | cons a _ ih => exact .cons a ih
theorem RelK.put {kvs : List (Key × V)} {ks : List (U × U)} (h : RelK K H kvs ks) (k : Key) {v : V} {u : U} (r : Rel K H v u) : RelK K H (putK kvs k v) (dput ks (keyU k) u) := by
  unfold putK dput
  rw [valV_any]
  have c : (valV kvs k).isSome = (dfind ks (keyU k)).isSome := by
    rcases h.find k with ⟨a, b⟩ | ⟨_, _, a, b, _⟩ <;> rw [a, b] <;> rfl
  rw [c]
  by_cases z : (dfind ks (keyU k)).isSome = true
  · rw [if_pos z, if_pos z]
    unfold RelK at h ⊢
    clear z c
    induction h with
    | nil => exact .nil
    | @cons p q ps qs a _ ih =>
      rw [List.map_cons, List.map_cons]
      refine .cons ?_ ih
      by_cases e : p.1 = k
      · rw [if_pos e, if_pos (by rw [a.1, e])]
        exact ⟨a.1, r⟩
      · rw [if_neg e, if_neg (fun z => e (keyU_inj (a.1.symm.trans z)))]
        exact a
  · rw [if_neg z, if_neg z]
    exact Paired.app h (.cons ⟨rfl, r⟩ .nil)
theorem RelT.put {kvs : List (List Key × V)} {ks : List (U × U)} (h : RelT K H kvs ks) (k : List Key) {v : V} {u : U} (r : Rel K H v u) : RelT K H (putK kvs k v) (dput ks (.tup (k.map keyU)) u) := by
  unfold putK dput
  rw [valV_any]
  have c : (valV kvs k).isSome = (dfind ks (.tup (k.map keyU))).isSome := by
    rcases h.find k with ⟨a, b⟩ | ⟨_, _, a, b, _⟩ <;> rw [a, b] <;> rfl
  rw [c]
  by_cases z : (dfind ks (.tup (k.map keyU))).isSome = true
  · rw [if_pos z, if_pos z]
    unfold RelT at h ⊢
    clear z c
    induction h with
    | nil => exact .nil
    | @cons p q ps qs a _ ih =>
      rw [List.map_cons, List.map_cons]
      refine .cons ?_ ih
      by_cases e : p.1 = k
      · rw [if_pos e, if_pos (by rw [a.1, e])]
        exact ⟨a.1, r⟩
      · rw [if_neg e, if_neg (fun z => e (keysU_inj (by
          have z2 := a.1.symm.trans z
          injection z2)))]
        exact a
  · rw [if_neg z, if_neg z]
    exact Paired.app h (.cons ⟨rfl, r⟩ .nil)
theorem RelK.len {kvs : List (Key × V)} {ks : List (U × U)} (h : RelK K H kvs ks) : kvs.length = ks.length := Paired.length h
theorem RelT.len {kvs : List (List Key × V)} {ks : List (U × U)} (h : RelT K H kvs ks) : kvs.length = ks.length := Paired.length h
theorem fz_rd {z : Bool} {a : Addr} {u : HO} (h : fz z (H a) u) : Rd H a u := by
  unfold fz at h
  cases z with
  | true => exact .inr (show ∃ ob, H a = some (.frz ob u) from h)
  | false => exact .inl h
/-- what a dict holds -/
theorem dget_of (S : Sim K H M) {p : Addr} {z t : Bool} {ks : List (U × U)} {k : U} {y : V} (hm : M p = some (.dct z t ks)) (hk : keyFor t k = true) (r : Rel K H y k) :
    ∃ o, DGet H p y o ∧ ((o = none ∧ dfind ks k = none) ∨ ∃ v u, o = some v ∧ dfind ks k = some u ∧ Rel K H v u) := by
  have q := S p _ hm
  cases t with
  | false =>
    obtain ⟨kvs, e, rk⟩ := q
    obtain ⟨key, e1, e2⟩ := isKey_of hk r
    refine ⟨valV kvs key, .inl ⟨kvs, key, fz_rd e, e2, rfl⟩, ?_⟩
    rw [e1]
    exact rk.find key
  | true =>
    obtain ⟨kvs, e, rk⟩ := q
    obtain ⟨b, key, e1, e2, e3⟩ := isKeyT_of hk r
    refine ⟨valV kvs key, .inr ⟨kvs, key, b, fz_rd e, e2, e3, rfl⟩, ?_⟩
    rw [e1]
    exact rk.find key
theorem dput_of (S : Sim K H M) {p : Addr} {t : Bool} {ks : List (U × U)} {k u : U} {y v : V} (hm : M p = some (.dct false t ks)) (hk : keyFor t k = true) (r : Rel K H y k) (rv : Rel K H v u) (hl : ks.length < LIM) :
    ∃ H', DPut H p y v H' ∧ Stp H M H' (um M p (.dct false t (dput ks k u))) ∧ Sim K H' (um M p (.dct false t (dput ks k u))) := by
  have q := S p _ hm
  cases t with
  | false =>
    obtain ⟨kvs, e, rk⟩ := q
    have e : H p = some (.dK kvs) := e
    obtain ⟨key, e1, e2⟩ := isKey_of hk r
    have st : Stp H M (upd H p (.dK (putK kvs key v))) (um M p (.dct false false (dput ks k u))) := Stp.mut hm
    refine ⟨_, .inl ⟨kvs, key, e, e2, by rw [rk.len]; exact lt_line hl, rfl⟩, st, S.mut (m := .dct false false (dput ks k u)) hm rfl ⟨_, upd_same, ?_⟩⟩
    rw [e1]
    exact RelK.put (Paired.mapR rk fun p q x => ⟨x.1, x.2.stp S st⟩) key (rv.stp S st)
  | true =>
    obtain ⟨kvs, e, rk⟩ := q
    have e : H p = some (.dT kvs) := e
    obtain ⟨b, key, e1, e2, e3⟩ := isKeyT_of hk r
    have st : Stp H M (upd H p (.dT (putK kvs key v))) (um M p (.dct false true (dput ks k u))) := Stp.mut hm
    refine ⟨_, .inr ⟨kvs, key, b, e, e2, e3, by rw [rk.len]; exact lt_line hl, rfl⟩, st, S.mut (m := .dct false true (dput ks k u)) hm rfl ⟨_, upd_same, ?_⟩⟩
    rw [e1]
    exact RelT.put (Paired.mapR rk fun p q x => ⟨x.1, x.2.stp S st⟩) key (rv.stp S st)
theorem relL_in {k : Key} : ∀ {ks : List Key} , inV (kV k) (ks.map kV) = decide (keyU k ∈ ks.map keyU)
  | [] => by simp [inV]
  | x :: xs => by
    have ih := @relL_in k xs
    unfold inV at ih ⊢
    rw [List.map_cons, List.any_cons, ih, List.map_cons]
    have e : eqV (kV x) (kV k) = decide (keyU x = keyU k) := by
      cases x <;> cases k <;> simp [kV, eqV, keyU, Bool.beq_eq_decide_eq]
    rw [e, ← Bool.decide_or]
    exact decide_eq_decide.mpr ⟨fun z => z.elim (fun e => by rw [e]; exact List.mem_cons_self) (List.mem_cons_of_mem _), fun z => (List.mem_cons.mp z).elim (fun e => .inl e.symm) .inr⟩
theorem flat_keys : ∀ ks : List Key, (ks.map kV).all flatV = true
  | [] => rfl
  | k :: ks => by rw [List.map_cons, List.all_cons, flat_keys ks]; cases k <;> rfl
end
end Pl

set_option maxHeartbeats 4000000
namespace Pl
open PySem L2
/-- a comparison: the value is a bool -/
def asB (f : U → U → Hm → (Bool → Hm → Prop) → Prop) : U → U → Hm → QU → Prop := fun a b M Q => f a b M fun k M => Q (.bl k) M
section
variable {X : Cx}
theorem eq_case {a b : U} {M : Hm} {Q : Bool → Hm → Prop} (h : eqW a b M Q) :
    (∃ i j, a = .bl i ∧ b = .bl j ∧ Q (i == j) M) ∨ (∃ i j, a = .int i ∧ b = .int j ∧ Q (decide (i = j)) M) ∨ (∃ i j, a = .str i ∧ b = .str j ∧ Q (decide (i = j)) M) ∨
    (∃ p q us ws, a = .ref p ∧ b = .ref q ∧ M p = some (.lst us) ∧ M q = some (.lst ws) ∧ okL us = true ∧ okL ws = true ∧ Q (decide (us = ws)) M) ∨ (okU a = true ∧ okU b = true ∧ Q (decide (a = b)) M) := by
  unfold eqW at h
  split at h
  · exact .inl ⟨_, _, rfl, rfl, h⟩
  · exact .inr (.inl ⟨_, _, rfl, rfl, h⟩)
  · exact .inr (.inr (.inl ⟨_, _, rfl, rfl, h⟩))
  · obtain ⟨us, ws, h1, h2, h3, h4, h5⟩ := h
    exact .inr (.inr (.inr (.inl ⟨_, _, us, ws, rfl, rfl, h1, h2, h3, h4, h5⟩)))
  · exact .inr (.inr (.inr (.inr h)))
theorem okL_dp {K : Fg} {H : Hp} {M : Hm} (S : Sim K H M) {p : Addr} {us : List U} (h : M p = some (.lst us)) (ok : okL us = true) : Dp K H (.ref p) (.list (pdL us)) := by
  obtain ⟨vs, e, r⟩ := S p _ h
  exact .lst (.inl (.inl e)) (ok_dpL 59 us vs (okL_all ok) r)
theorem op_eqS (hu : X.A.units + 64 < cLine) : OpR X (compareOp .Eq) (R2s X.K (asB eqW)) := by
  intro pins s σ H x y v u Q I rx ry h
  obtain ⟨a, b, M, Qu, S, ra, rb, hf, c⟩ := h
  rcases eq_case hf with ⟨i, j, rfl, rfl, q⟩ | ⟨i, j, rfl, rfl, q⟩ | ⟨i, j, rfl, rfl, q⟩ | ⟨p, p', us, ws, rfl, rfl, h1, h2, h3, h4, q⟩ | ⟨h1, h2, q⟩
  · cases ra; cases rb
    refine op_eq pins s σ H _ _ v u Q I rx ry ⟨rfl, ?_⟩
    rw [dec_bl]
    exact c.at_ S (.bl _) q
  · cases ra; cases rb
    refine op_eq pins s σ H _ _ v u Q I rx ry ⟨rfl, ?_⟩
    rw [dec_int, Bool.beq_eq_decide_eq]
    exact c.at_ S (.bl _) q
  · cases ra; cases rb
    refine op_eq pins s σ H _ _ v u Q I rx ry ⟨rfl, ?_⟩
    rw [dec_str, Bool.beq_eq_decide_eq]
    exact c.at_ S (.bl _) q
  · cases ra; cases rb
    refine op_eqD hu pins s σ H _ _ v u Q I rx ry ⟨_, _, okL_dp S h1 h3, okL_dp S h2 h4, okL_shaped h3, okL_shaped h4, ?_⟩
    have e : PyData.eqv (.list (pdL us)) (.list (pdL ws)) = decide (us = ws) := by
      rw [PyData.eqv]
      exact ok_eqvL 59 us 59 ws (okL_all h3) (okL_all h4)
    rw [e]
    exact c.at_ S (.bl _) q
  · refine op_eqD hu pins s σ H _ _ v u Q I rx ry ⟨_, _, ok_dp 60 a x h1 ra, ok_dp 60 b y h2 rb, ok_shaped h1 (by decide), ok_shaped h2 (by decide), ?_⟩
    rw [ok_eqv 60 a 60 b h1 h2]
    exact c.at_ S (.bl _) q
theorem op_neS (hu : X.A.units + 64 < cLine) : OpR X (compareOp .NotEq) (R2s X.K (asB fun x y M Q => eqW x y M fun b M => Q (!b) M)) := by
  intro pins s σ H x y v u Q I rx ry h
  obtain ⟨a, b, M, Qu, S, ra, rb, hf, c⟩ := h
  have hf : eqW a b M fun b M => Qu (.bl (!b)) M := hf
  rcases eq_case hf with ⟨i, j, rfl, rfl, q⟩ | ⟨i, j, rfl, rfl, q⟩ | ⟨i, j, rfl, rfl, q⟩ | ⟨p, p', us, ws, rfl, rfl, h1, h2, h3, h4, q⟩ | ⟨h1, h2, q⟩
  · cases ra; cases rb
    refine op_ne pins s σ H _ _ v u Q I rx ry ⟨rfl, ?_⟩
    rw [dec_bl]
    exact c.at_ S (.bl _) q
  · cases ra; cases rb
    refine op_ne pins s σ H _ _ v u Q I rx ry ⟨rfl, ?_⟩
    rw [dec_int, Bool.beq_eq_decide_eq]
    exact c.at_ S (.bl _) q
  · cases ra; cases rb
    refine op_ne pins s σ H _ _ v u Q I rx ry ⟨rfl, ?_⟩
    rw [dec_str, Bool.beq_eq_decide_eq]
    exact c.at_ S (.bl _) q
  · cases ra; cases rb
    refine op_neD hu pins s σ H _ _ v u Q I rx ry ⟨_, _, okL_dp S h1 h3, okL_dp S h2 h4, okL_shaped h3, okL_shaped h4, ?_⟩
    have e : PyData.eqv (.list (pdL us)) (.list (pdL ws)) = decide (us = ws) := by
      rw [PyData.eqv]
      exact ok_eqvL 59 us 59 ws (okL_all h3) (okL_all h4)
    rw [e]
    exact c.at_ S (.bl _) q
  · refine op_neD hu pins s σ H _ _ v u Q I rx ry ⟨_, _, ok_dp 60 a x h1 ra, ok_dp 60 b y h2 rb, ok_shaped h1 (by decide), ok_shaped h2 (by decide), ?_⟩
    rw [ok_eqv 60 a 60 b h1 h2]
    exact c.at_ S (.bl _) q
theorem op_inS (hu : X.A.units + 65 < cLine) : OpR X (compareOp .In) (R2s X.K (asB (inW false))) := by
  intro pins s σ H x y v u Q I rx ry h
  obtain ⟨a, b, M, Qu, S, ra, rb, hf, c⟩ := h
  have hf : inW false a b M fun b M => Qu (.bl b) M := hf
  unfold inW at hf
  split at hf
  · obtain ⟨_, _, ⟨h3, h4⟩, q⟩ := hf
    cases rb with
    | tup t r =>
      obtain ⟨ks, e1, e2⟩ := isKeys_of h3 r
      obtain ⟨k, e3, e4⟩ := isKey_of h4 ra
      subst e1 e2 e3 e4
      refine op_in_seq pins s σ H _ _ v u Q I rx ry ⟨_, _, rfl, .inr t.sq, by cases k <;> rfl, flat_keys ks, ?_⟩
      rw [if_neg (by decide), relL_in]
      rw [if_neg (by decide)] at q
      exact c.at_ S (.bl _) q
  · rcases hf with ⟨us, h1, h2, h3, q⟩ | ⟨z, t, ks, h1, h2, q⟩
    · cases rb
      refine op_inD hu pins s σ H _ _ v u Q I rx ry ⟨_, _, ok_dp 60 a x h2 ra, okL_dp S h1 h3, ok_shaped h2 (by decide), okL_shaped h3, ?_⟩
      rw [any_eqv h2 us (okL_all h3)]
      exact c.at_ S (.bl _) q
    · obtain ⟨o, g, q2⟩ := dget_of S h1 h2 ra
      cases rb
      obtain rfl : u = Value.ref _ := ry
      have e : o.isSome = (dfind ks a).isSome := by
        rcases q2 with ⟨e1, e2⟩ | ⟨_, _, e1, e2, _⟩ <;> rw [e1, e2] <;> rfl
      refine d_in (by omega) I g rx fun s' I' => ⟨.bl _, H, I', rfl, ?_⟩
      rw [e]
      exact c.at_ S (.bl _) q
  · exact hf.elim
theorem op_notinS (hu : X.A.units + 65 < cLine) : OpR X (compareOp .NotIn) (R2s X.K (asB (inW true))) := by
  intro pins s σ H x y v u Q I rx ry h
  obtain ⟨a, b, M, Qu, S, ra, rb, hf, c⟩ := h
  have hf : inW true a b M fun b M => Qu (.bl b) M := hf
  unfold inW at hf
  split at hf
  · obtain ⟨_, _, ⟨h3, h4⟩, q⟩ := hf
    cases rb with
    | tup t r =>
      obtain ⟨ks, e1, e2⟩ := isKeys_of h3 r
      obtain ⟨k, e3, e4⟩ := isKey_of h4 ra
      subst e1 e2 e3 e4
      refine op_notIn_seq pins s σ H _ _ v u Q I rx ry ⟨_, _, rfl, .inr t.sq, by cases k <;> rfl, flat_keys ks, ?_⟩
      rw [if_pos rfl, relL_in]
      rw [if_pos rfl] at q
      exact c.at_ S (.bl _) q
  · rcases hf with ⟨us, h1, h2, h3, q⟩ | ⟨z, t, ks, h1, h2, q⟩
    · cases rb
      refine op_notInD hu pins s σ H _ _ v u Q I rx ry ⟨_, _, ok_dp 60 a x h2 ra, okL_dp S h1 h3, ok_shaped h2 (by decide), okL_shaped h3, ?_⟩
      rw [any_eqv h2 us (okL_all h3)]
      exact c.at_ S (.bl _) q
    · obtain ⟨o, g, q2⟩ := dget_of S h1 h2 ra
      cases rb
      obtain rfl : u = Value.ref _ := ry
      have e : o.isSome = (dfind ks a).isSome := by
        rcases q2 with ⟨e1, e2⟩ | ⟨_, _, e1, e2, _⟩ <;> rw [e1, e2] <;> rfl
      refine d_notIn (by omega) I g rx fun s' I' => ⟨.bl _, H, I', rfl, ?_⟩
      rw [e]
      exact c.at_ S (.bl _) q
  · exact hf.elim
theorem op_cmpS (hu : X.A.units + 65 < cLine) (op : Cop) : OpR X (compareOp (copOf op)) (R2s X.K (asB (cmpW op))) := by
  cases op with
  | eq => exact op_eqS (by omega)
  | ne => exact op_neS (by omega)
  | isin => exact op_inS hu
  | notin => exact op_notinS hu
  | lt =>
    intro pins s σ H x y v u Q I rx ry h
    obtain ⟨a, b, M, Qu, S, ra, rb, hf, c⟩ := h
    unfold asB cmpW at hf
    simp only at hf
    split at hf
    · cases ra; cases rb; exact op_lt pins s σ H _ _ v u Q I rx ry ⟨_, _, rfl, rfl, c.at_ S (.bl _) hf⟩
    · exact hf.elim
  | le =>
    intro pins s σ H x y v u Q I rx ry h
    obtain ⟨a, b, M, Qu, S, ra, rb, hf, c⟩ := h
    unfold asB cmpW at hf
    simp only at hf
    split at hf
    · cases ra; cases rb; exact op_le pins s σ H _ _ v u Q I rx ry ⟨_, _, rfl, rfl, c.at_ S (.bl _) hf⟩
    · exact hf.elim
  | gt =>
    intro pins s σ H x y v u Q I rx ry h
    obtain ⟨a, b, M, Qu, S, ra, rb, hf, c⟩ := h
    unfold asB cmpW at hf
    simp only at hf
    split at hf
    · cases ra; cases rb; exact op_gt pins s σ H _ _ v u Q I rx ry ⟨_, _, rfl, rfl, c.at_ S (.bl _) hf⟩
    · exact hf.elim
  | ge =>
    intro pins s σ H x y v u Q I rx ry h
    obtain ⟨a, b, M, Qu, S, ra, rb, hf, c⟩ := h
    unfold asB cmpW at hf
    simp only at hf
    split at hf
    · cases ra; cases rb; exact op_ge pins s σ H _ _ v u Q I rx ry ⟨_, _, rfl, rfl, c.at_ S (.bl _) hf⟩
    · exact hf.elim

/-! ### truth -/
def TrS (K : Fg) : V → Hp → (Bool → Hp → Prop) → Prop := fun x H Q => ∃ a M Qu, Sim K H M ∧ Rel K H x a ∧ truW a M Qu ∧ ContB K H M Qu Q
theorem tru_of {K : Fg} {x : V} {H : Hp} {Q : Bool → Hp → Prop} (h : TrS K x H Q) : ∃ k, TruV K x H k ∧ Q k H := by
  obtain ⟨a, M, Qu, S, r, t, c⟩ := h
  unfold truW at t
  split at t
  · cases r; exact ⟨_, rfl, c _ _ _ (Stp.refl H M) S t⟩
  · cases r; exact ⟨_, rfl, c _ _ _ (Stp.refl H M) S t⟩
  · rename_i z
    cases r
    refine ⟨_, ⟨le_line t.1, rfl⟩, ?_⟩
    have e : ((z.length : Int) != 0) = (z.length != 0) := by
      by_cases h : z.length = 0
      · rw [h]; rfl
      · have h2 : (z.length : Int) ≠ 0 := by omega
        rw [bne_iff_ne.mpr h2, bne_iff_ne.mpr h]
    rw [e]
    exact c _ _ _ (Stp.refl H M) S t.2
  · cases r; exact ⟨_, rfl, c _ _ _ (Stp.refl H M) S t⟩
  · cases r with
    | tup t1 r1 =>
      refine ⟨_, .inr (.inl ⟨_, t1.sq, rfl⟩), ?_⟩
      rw [r1.isEmpty]
      exact c _ _ _ (Stp.refl H M) S t
  · rename_i p
    cases r
    rcases t with ⟨us, h1, q⟩ | ⟨ks, h1, q⟩
    · obtain ⟨vs, e, r1⟩ := S _ _ h1
      refine ⟨_, .inl ⟨_, .inl (.inl e), rfl⟩, ?_⟩
      rw [r1.isEmpty]
      exact c _ _ _ (Stp.refl H M) S q
    · obtain ⟨kvs, e, r1⟩ := S _ _ h1
      refine ⟨_, .inr (.inr ⟨kvs, e, rfl⟩), ?_⟩
      have e2 : kvs.isEmpty = ks.isEmpty := by cases r1 <;> rfl
      rw [e2]
      exact c _ _ _ (Stp.refl H M) S q
  · exact t.elim

/-! ### subscripts -/
theorem ix_pure {K : Fg} {H : Hp} {vs : List V} {us : List U} (r : RelL K H vs us) {j : Int} {u : U} (h : atI us j = some u) : ∃ v, atI vs j = some v ∧ Rel K H v u := by
  unfold atI at h ⊢
  rw [r.length]
  cases e : ixN us.length j with
  | none => rw [e] at h; cases h
  | some k =>
    rw [e] at h
    exact r.get h
theorem ix_S (hu : X.A.units + 1 < cLine) : IxR X (R2s X.K ixW) := by
  intro vl sl pins s σ H x y v u Q I rx ry h hs
  obtain ⟨a, b, M, Qu, S, ra, rb, hf, c⟩ := h
  unfold ixW at hf
  split at hf
  · obtain ⟨j, w, rfl, e, q⟩ := hf
    cases rb
    cases ra with
    | tup t r =>
      obtain ⟨v1, e1, r1⟩ := ix_pure r e
      exact ix_tup vl sl pins s σ H _ _ v u Q I rx ry ⟨_, _, _, _, rfl, rfl, t.sq, e1, c.at_ S r1 q⟩ hs
  · rcases hf with ⟨us, j, w, h1, rfl, e, q⟩ | ⟨z, t, ks, w, h1, h2, e, q⟩
    · cases rb
      cases ra
      obtain ⟨vs, e2, r⟩ := S _ _ h1
      obtain ⟨v1, e1, r1⟩ := ix_pure r e
      exact ix_list vl sl pins s σ H _ _ v u Q I rx ry ⟨_, _, _, _, rfl, rfl, .inl (.inl e2), e1, c.at_ S r1 q⟩ hs
    · obtain ⟨o, g, q2⟩ := dget_of S h1 h2 rb
      cases ra
      obtain rfl : v = Value.ref _ := rx
      rcases q2 with ⟨_, e2⟩ | ⟨v1, u1, e1, e2, r1⟩
      · rw [e] at e2; cases e2
      · rw [e] at e2
        cases e2
        subst e1
        exact PyProof.Rows.tail_any (dict_typeIs I g) PySem.F.slot_dict_getitem.lookup (d_getItem hu I g ry fun w' s' I' rw' => ⟨_, H, I', rw', c.at_ S r1 q⟩) hs
  · obtain ⟨j, cc, rfl, hl, e, q⟩ := hf
    cases ra; cases rb
    exact ix_str vl sl pins s σ H _ _ v u Q I rx ry ⟨_, _, _, rfl, rfl, le_line hl, e, c.at_ S (.str _) q⟩ hs
  · exact hf.elim
end
end Pl

set_option maxHeartbeats 4000000
namespace Pl
open PySem L2
/-- a call by values -/
def CRs (K : Fg) (g : List U → Hm → QU → Prop) : List V → Hp → VK → Prop := fun xs H Q => ∃ us M Qu, Sim K H M ∧ RelL K H xs us ∧ g us M Qu ∧ Cont K H M Qu Q
/-- a method by values: the receiver's reading and the arguments' stand apart -/
def MRs (K : Fg) (g : U → List U → Hm → QU → Prop) : V → List V → Hp → VK → Prop := fun x xs H Q => ∃ a us M Qu, Sim K H M ∧ Rel K H x a ∧ RelL K H xs us ∧ g a us M Qu ∧ Cont K H M Qu Q
def SlS (K : Fg) : V → Option Int → Option Int → Hp → VK → Prop := fun x lo hi H Q => ∃ a M Qu, Sim K H M ∧ Rel K H x a ∧ sliceW a lo hi M Qu ∧ Cont K H M Qu Q
section
variable {X : Cx}
theorem cut_rel {K : Fg} {H : Hp} {vs : List V} {us : List U} (r : RelL K H vs us) (lo hi : Option Int) : RelL K H (cutV vs lo hi) (cutU us lo hi) := by
  unfold cutV cutU
  rw [r.length]
  exact (r.drop _).take _
theorem cut_whole {us : List U} {lo hi : Option Int} (h : HT.sIx us.length 0 lo = 0 ∧ HT.sIx us.length us.length hi = us.length) : cutU us lo hi = us := by
  unfold cutU
  rw [h.1, h.2]
  simp
theorem sl_S : SlR X (SlS X.K) := by
  intro pins s σ H x v vl vu lo hi sl Q I rx hs pl pu h
  obtain ⟨a, M, Qu, S, ra, hf, c⟩ := h
  unfold sliceW at hf
  split at hf
  · rename_i l
    cases ra with
    | tup t r =>
      refine sl_tupA pins s σ H _ v vl vu lo hi sl Q I rx hs pl pu ⟨_, _, rfl, t.sq, fun hw => ?_, fun _ p hp => c.tup S (cut_rel r lo hi) hf hp⟩
      rw [r.length] at hw
      rw [cut_whole hw] at hf
      exact c.at_ S (.tup t r) hf
  · obtain ⟨us, h1, q⟩ := hf
    obtain ⟨vs, e, r⟩ := S _ _ h1
    cases ra
    exact sl_list pins s σ H _ v vl vu lo hi sl Q I rx hs pl pu ⟨_, _, rfl, .inl (.inl e), fun p hp => c.lst S (cut_rel r lo hi) q hp⟩
  · exact hf.elim
/-- o[i] = v -/
def SetS (K : Fg) : TSet := fun o i v H Q => ∃ a b u M Qu, Sim K H M ∧ Rel K H o a ∧ Rel K H i b ∧ Rel K H v u ∧ setW a b u M Qu ∧ ∀ H' M', Stp H M H' M' → Sim K H' M' → Qu M' → Q H'
theorem set_S (hu : X.A.units + 1 < cLine) : PSet X (SetS X.K) := by
  intro pins s σ H o i v ov iv u Q I ro ri rv h
  obtain ⟨a, b, u', M, Qu, S, ra, rb, ru, hf, c⟩ := h
  unfold setW at hf
  split at hf
  · rcases hf with ⟨us, j, k, h1, rfl, e, q⟩ | ⟨t, ks, h1, h2, h3, q⟩
    · obtain ⟨vs, e1, r⟩ := S _ _ h1
      cases ra
      cases rb
      refine set_list pins s σ H _ _ v ov iv u Q I ro ri rv ⟨_, vs, j, k, rfl, rfl, e1, by rw [r.length]; exact e, ?_⟩
      exact c _ _ (Stp.mut h1) (S.mut (m := .lst (us.set k u')) h1 rfl ⟨_, upd_same, (r.set k ru).stp S (Stp.mut (m := .lst (us.set k u')) h1)⟩) q
    · obtain ⟨H', g, st, S'⟩ := dput_of S h1 h2 rb ru h3
      cases ra
      obtain rfl : ov = Value.ref _ := ro
      exact d_setItem hu I g ri rv fun s' I' => ⟨H', I', c _ _ st S' q⟩
  · exact hf.elim
/-! ### built-ins -/
theorem vals1R {K : Fg} {H : Hp} {xs : List V} {u : U} (r : RelL K H xs [u]) : ∃ v, xs = [v] ∧ Rel K H v u := by
  cases r with
  | cons a b => cases b; exact ⟨_, rfl, a⟩
theorem vals2R {K : Fg} {H : Hp} {xs : List V} {u w : U} (r : RelL K H xs [u, w]) : ∃ v y, xs = [v, y] ∧ Rel K H v u ∧ Rel K H y w := by
  cases r with
  | cons a b => obtain ⟨y, rfl, q⟩ := vals1R b; exact ⟨_, y, rfl, a, q⟩
theorem relK_keys {K : Fg} {H : Hp} : ∀ {kvs : List (Key × V)} {ks : List (U × U)}, RelK K H kvs ks → RelL K H (kvs.map fun kv => kV kv.1) (ks.map (·.1))
  | [], _, r => by unfold RelK at r; cases r; exact .nil
  | (k, v) :: kvs, _, r => by
    unfold RelK at r
    cases r with
    | @cons p q ps qs a b =>
      rw [List.map_cons, List.map_cons]
      refine .cons ?_ (relK_keys b)
      rw [a.1]
      cases k with
      | inl i => exact .int i
      | inr x => exact .str x
def bfnV : Bfn → Option Value
  | .len => some (.builtin "len")
  | .list => some (.type "list")
  | .tuple => some (.type "tuple")
  | .int => some (.type "int")
  | .abs => some (.builtin "abs")
  | .max => some (.builtin "max")
  | .min => some (.builtin "min")
  | _ => none
theorem cr_len : CallR X (.builtin "len") (CRs X.K (bltW .len)) := by
  intro pins s σ H xs us Q I r h
  obtain ⟨as, M, Qu, S, ra, hf, c⟩ := h
  unfold bltW at hf
  split at hf <;> first | (rename_i e; cases e; done) | skip
  · rename_i e
    obtain ⟨v, rfl, rv⟩ := vals1R ra
    cases rv with
    | tup t rl =>
      refine call_len_seq pins s σ H _ us Q I r ⟨_, _, rfl, .inr t.sq, ?_⟩
      rw [rl.length]
      exact c.at_ S (.int _) hf
  · obtain ⟨v, rfl, rv⟩ := vals1R ra
    cases rv
    exact call_len_str pins s σ H _ us Q I r ⟨_, rfl, le_line hf.1, c.at_ S (.int _) hf.2⟩
  · obtain ⟨v, rfl, rv⟩ := vals1R ra
    cases rv
    rcases hf with ⟨ws, h1, q⟩ | ⟨ks, h1, q⟩
    · obtain ⟨vs, e, rl⟩ := S _ _ h1
      refine call_len_seq pins s σ H _ us Q I r ⟨_, _, rfl, .inl (.inl (.inl e)), ?_⟩
      rw [rl.length]
      exact c.at_ S (.int _) q
    · obtain ⟨kvs, e, rl⟩ := S _ _ h1
      refine call_lenD pins s σ H _ us Q I r ⟨_, _, rfl, e, ?_⟩
      rw [RelK.len rl]
      exact c.at_ S (.int _) q
  · exact hf.elim
theorem cr_listS (hc : X.calm = true) : CallR X (.type "list") (CRs X.K (bltW .list)) := by
  intro pins s σ H xs us Q I r h
  obtain ⟨as, M, Qu, S, ra, hf, c⟩ := h
  unfold bltW at hf
  split at hf <;> first | (rename_i e; cases e; done) | skip
  · obtain ⟨v, rfl, rv⟩ := vals1R ra
    cases rv with
    | tup t rl => exact call_list_of pins s σ H _ us Q I r ⟨_, _, rfl, .inr t.sq, fun l hl => c.lst S rl hf hl⟩
  · obtain ⟨v, rfl, rv⟩ := vals1R ra
    cases rv
    rcases hf with ⟨ws, h1, q⟩ | ⟨ks, h1, q⟩
    · obtain ⟨vs, e, rl⟩ := S _ _ h1
      exact call_list_of pins s σ H _ us Q I r ⟨_, _, rfl, .inl (.inl (.inl e)), fun l hl => c.lst S rl q hl⟩
    · obtain ⟨kvs, e, rl⟩ := S _ _ h1
      exact call_list_dK hc pins s σ H _ us Q I r ⟨_, _, rfl, e, fun l hl => c.lst S (relK_keys rl) q hl⟩
  · exact hf.elim
theorem cr_tupleS : CallR X (.type "tuple") (CRs X.K (bltW .tuple)) := by
  intro pins s σ H xs us Q I r h
  obtain ⟨as, M, Qu, S, ra, hf, c⟩ := h
  unfold bltW at hf
  split at hf <;> first | (rename_i e; cases e; done) | skip
  · obtain ⟨v, rfl, rv⟩ := vals1R ra
    cases rv with
    | tup t rl => exact call_tuple_of pins s σ H _ us Q I r ⟨_, _, rfl, .inr ⟨t.sq, c.at_ S (.tup t rl) hf⟩⟩
  · obtain ⟨v, rfl, rv⟩ := vals1R ra
    cases rv
    obtain ⟨ws, h1, q⟩ := hf
    obtain ⟨vs, e, rl⟩ := S _ _ h1
    exact call_tuple_of pins s σ H _ us Q I r ⟨_, _, rfl, .inl ⟨.inl (.inl e), fun l hl => c.tup S rl q hl⟩⟩
  · exact hf.elim
theorem cr_intS : CallR X (.type "int") (CRs X.K (bltW .int)) := by
  intro pins s σ H xs us Q I r h
  obtain ⟨as, M, Qu, S, ra, hf, c⟩ := h
  unfold bltW at hf
  split at hf <;> first | (rename_i e; cases e; done) | skip
  · obtain ⟨v, rfl, rv⟩ := vals1R ra
    cases rv
    exact call_int1 pins s σ H _ us Q I r (.inl ⟨_, rfl, c.at_ S (.int _) hf⟩)
  · obtain ⟨v, rfl, rv⟩ := vals1R ra
    cases rv
    exact call_int1 pins s σ H _ us Q I r (.inr ⟨_, rfl, c.at_ S (.int _) hf⟩)
  · exact hf.elim
theorem cr_absS : CallR X (.builtin "abs") (CRs X.K (bltW .abs)) := by
  intro pins s σ H xs us Q I r h
  obtain ⟨as, M, Qu, S, ra, hf, c⟩ := h
  unfold bltW at hf
  split at hf <;> first | (rename_i e; cases e; done) | skip
  · obtain ⟨v, rfl, rv⟩ := vals1R ra
    cases rv
    exact call_abs pins s σ H _ us Q I r ⟨_, rfl, c.at_ S (.int _) hf⟩
  · exact hf.elim
theorem cr_maxS (hc : X.calm = true) : CallR X (.builtin "max") (CRs X.K (bltW .max)) := by
  intro pins s σ H xs us Q I r h
  obtain ⟨as, M, Qu, S, ra, hf, c⟩ := h
  unfold bltW at hf
  split at hf <;> first | (rename_i e; cases e; done) | skip
  · obtain ⟨v, y, rfl, rv, ry⟩ := vals2R ra
    cases rv; cases ry
    exact call_max2 hc pins s σ H _ us Q I r ⟨_, _, rfl, c.at_ S (.int _) hf⟩
  · exact hf.elim
theorem cr_minS (hc : X.calm = true) : CallR X (.builtin "min") (CRs X.K (bltW .min)) := by
  intro pins s σ H xs us Q I r h
  obtain ⟨as, M, Qu, S, ra, hf, c⟩ := h
  unfold bltW at hf
  split at hf <;> first | (rename_i e; cases e; done) | skip
  · obtain ⟨v, y, rfl, rv, ry⟩ := vals2R ra
    cases rv; cases ry
    exact call_min2 hc pins s σ H _ us Q I r ⟨_, _, rfl, c.at_ S (.int _) hf⟩
  · exact hf.elim
theorem cr_S (hc : X.calm = true) {f : Bfn} {v : Value} (h : bfnV f = some v) : CallR X v (CRs X.K (bltW f)) := by
  cases f <;> first | (cases h; done) | skip
  · cases h; exact cr_len
  · cases h; exact cr_listS hc
  · cases h; exact cr_tupleS
  · cases h; exact cr_intS
  · cases h; exact cr_absS
  · cases h; exact cr_maxS hc
  · cases h; exact cr_minS hc
/-! ### methods -/
/-- the receiver's type, where the method is called -/
def mfnT : Mfn → Option (String × Str × String)
  | .append => some ("list", "append", "list.append")
  | .extend => some ("list", "extend", "list.extend")
  | .pop => some ("list", "pop", "list.pop")
  | .popAt => some ("list", "pop", "list.pop")
  | .split => some ("str", "split", "str.split")
  | _ => none
theorem mt_appendS : MtR X "list.append" (MRs X.K (mthW .append)) := by
  intro pins s σ H x xs v us Q I r rs h
  obtain ⟨a, bs, M, Qu, S, ra, rb, hf, c⟩ := h
  unfold mthW at hf
  split at hf <;> first | (rename_i e; cases e; done) | skip
  · obtain ⟨ws, h1, h2, q⟩ := hf
    obtain ⟨y, rfl, ry⟩ := vals1R rb
    obtain ⟨vs, e, rl⟩ := S _ _ h1
    cases ra
    exact mt_append pins s σ H _ _ v us Q I r rs ⟨_, vs, y, rfl, rfl, e, by rw [rl.length]; exact lt_line h2, c.mutL S h1 (rl.append (.cons ry .nil)) .non q⟩
  · exact hf.elim
theorem mt_extendS : MtR X "list.extend" (MRs X.K (mthW .extend)) := by
  intro pins s σ H x xs v us Q I r rs h
  obtain ⟨a, bs, M, Qu, S, ra, rb, hf, c⟩ := h
  unfold mthW at hf
  split at hf <;> first | (rename_i e; cases e; done) | skip
  · obtain ⟨ws, zs, h1, h2, h3, q⟩ := hf
    obtain ⟨y, rfl, ry⟩ := vals1R rb
    obtain ⟨vs, e, rl⟩ := S _ _ h1
    obtain ⟨ys, e2, rl2⟩ := S _ _ h2
    cases ra; cases ry
    exact mt_extend pins s σ H _ _ v us Q I r rs ⟨_, _, vs, ys, rfl, rfl, e, e2, by rw [rl.length, rl2.length]; exact le_line h3, c.mutL S h1 (rl.append rl2) .non q⟩
  · exact hf.elim
theorem mt_popS : MtR X "list.pop" (MRs X.K (mthW .pop)) := by
  intro pins s σ H x xs v us Q I r rs h
  obtain ⟨a, bs, M, Qu, S, ra, rb, hf, c⟩ := h
  unfold mthW at hf
  split at hf <;> first | (rename_i e; cases e; done) | skip
  · obtain ⟨ws, y, h1, h2, q⟩ := hf
    cases rb
    obtain ⟨vs, e, rl⟩ := S _ _ h1
    obtain ⟨z, e2, rz⟩ := rl.get h2
    cases ra
    exact mt_pop pins s σ H _ _ v us Q I r rs ⟨_, vs, z, rfl, rfl, e, by rw [rl.length]; exact e2, c.mutL S h1 rl.dropLast rz q⟩
  · exact hf.elim
theorem mt_popAtS : MtR X "list.pop" (MRs X.K (mthW .popAt)) := by
  intro pins s σ H x xs v us Q I r rs h
  obtain ⟨a, bs, M, Qu, S, ra, rb, hf, c⟩ := h
  unfold mthW at hf
  split at hf <;> first | (rename_i e; cases e; done) | skip
  · obtain ⟨ws, k, y, h1, h2, h3, h4, q⟩ := hf
    obtain ⟨y2, rfl, ry⟩ := vals1R rb
    obtain ⟨vs, e, rl⟩ := S _ _ h1
    obtain ⟨z, e2, rz⟩ := rl.get h4
    obtain ⟨e3, e4, e5, e6⟩ := ixN_seq h3
    have hl : LIM = 100000 := rfl
    cases ra; cases ry
    exact mt_popAt pins s σ H _ _ v us Q I r rs ⟨_, vs, _, k, z, rfl, rfl, e, by omega, by omega, by rw [rl.length]; exact e3, e2, c.mutL S h1 (rl.eraseIdx k) rz q⟩
  · exact hf.elim
theorem mt_splitS : MtR X "str.split" (MRs X.K (mthW .split)) := by
  intro pins s σ H x xs v us Q I r rs h
  obtain ⟨a, bs, M, Qu, S, ra, rb, hf, c⟩ := h
  unfold mthW at hf
  split at hf <;> first | (rename_i e; cases e; done) | skip
  · obtain ⟨h1, h2, q⟩ := hf
    obtain ⟨y, rfl, ry⟩ := vals1R rb
    cases ra; cases ry
    exact mt_split pins s σ H _ _ v us Q I r rs ⟨_, _, rfl, rfl, h1, le_line h2, fun p hp => c.lst S (RelL.strs _) q hp⟩
  · exact hf.elim
/-! ### isinstance -/
def IsS (K : Fg) (t : String) : V → Hp → (Bool → Hp → Prop) → Prop := fun x H Q => ∃ a M Qu, Sim K H M ∧ Rel K H x a ∧ isTyW a t M Qu ∧ ContB K H M Qu Q
def tyOk (t : String) : Bool := t == "tuple" || t == "str" || t == "int" || t == "bool" || t == "list"
theorem isTy_of {K : Fg} {t : String} {x : V} {H : Hp} {Q : Bool → Hp → Prop} (ht : tyOk t = true) (h : IsS K t x H Q) : ∃ ty b, TyX K H x ty ∧ PySem.W.kitOne K ty (.type t) = some b ∧ Q b H := by
  obtain ⟨a, M, Qu, S, r, hf, c⟩ := h
  have ht2 : t = "tuple" ∨ t = "str" ∨ t = "int" ∨ t = "bool" ∨ t = "list" := by
    unfold tyOk at ht
    simp only [Bool.or_eq_true, beq_iff_eq] at ht
    rcases ht with (((h | h) | h) | h) | h
    · exact .inl h
    · exact .inr (.inl h)
    · exact .inr (.inr (.inl h))
    · exact .inr (.inr (.inr (.inl h)))
    · exact .inr (.inr (.inr (.inr h)))
  unfold isTyW at hf
  split at hf
  · cases r
    refine ⟨_, _, .base .non, ?_, c _ _ _ (Stp.refl H M) S hf⟩
    rcases ht2 with rfl | rfl | rfl | rfl | rfl <;> exact kit_ty (by decide +kernel)
  · cases r
    refine ⟨_, _, .base (.bl _), ?_, c _ _ _ (Stp.refl H M) S hf⟩
    rcases ht2 with rfl | rfl | rfl | rfl | rfl <;> exact kit_ty (by decide +kernel)
  · cases r
    refine ⟨_, _, .base (.int _), ?_, c _ _ _ (Stp.refl H M) S hf⟩
    rcases ht2 with rfl | rfl | rfl | rfl | rfl <;> exact kit_ty (by decide +kernel)
  · cases r
    refine ⟨_, _, .base (.str _), ?_, c _ _ _ (Stp.refl H M) S hf⟩
    rcases ht2 with rfl | rfl | rfl | rfl | rfl <;> exact kit_ty (by decide +kernel)
  · cases r with
    | tup t1 r1 =>
      refine ⟨_, _, .base (.tup t1), ?_, c _ _ _ (Stp.refl H M) S hf⟩
      rcases ht2 with rfl | rfl | rfl | rfl | rfl <;> exact kit_ty (by decide +kernel)
  · obtain ⟨us, h1, q⟩ := hf
    obtain ⟨vs, e, rl⟩ := S _ _ h1
    cases r
    refine ⟨_, _, .base (.lst e), ?_, c _ _ _ (Stp.refl H M) S q⟩
    rcases ht2 with rfl | rfl | rfl | rfl | rfl <;> exact kit_ty (by decide +kernel)
  · exact hf.elim
end
end Pl

set_option maxHeartbeats 4000000
/-! expressions: the text against the small syntax -/
namespace Pl
open PySem L2
def RelS (K : Fg) (H : Hp) (σ : L2.St) (σu : SU) : Prop := σ.length = σu.length ∧ ∀ (i : Nat) (u : U), σu[i]? = some (some u) → ∃ v, σ[i]? = some (some v) ∧ Rel K H v u
theorem RelS.stp {K : Fg} {H H' : Hp} {M M' : Hm} {σ : L2.St} {σu : SU} (S : Sim K H M) (t : Stp H M H' M') (h : RelS K H σ σu) : RelS K H' σ σu :=
  ⟨h.1, fun i u e => let ⟨v, a, b⟩ := h.2 i u e; ⟨v, a, b.stp S t⟩⟩
theorem RelS.set {K : Fg} {H : Hp} {σ : L2.St} {σu : SU} {v : V} {u : U} (h : RelS K H σ σu) (r : Rel K H v u) (i : Nat) : RelS K H (σ.set i (some v)) (σu.set i (some u)) :=
  ⟨by rw [List.length_set, List.length_set, h.1], fun j w e => by
    by_cases hj : i = j
    · subst hj
      by_cases hl : i < σu.length
      · rw [List.getElem?_set_self hl] at e
        cases e
        exact ⟨v, List.getElem?_set_self (by rw [h.1]; exact hl), r⟩
      · rw [List.getElem?_eq_none (by rw [List.length_set]; omega)] at e
        cases e
    · rw [List.getElem?_set_ne hj] at e ⊢
      exact h.2 j w e⟩
theorem RelS.wipe {K : Fg} {H : Hp} {σ : L2.St} {σu : SU} (h : RelS K H σ σu) : ∀ vs : List Nat, RelS K H (L2.wipe σ vs) (wipU σu vs)
  | [] => h
  | v :: vs => by
    have ih := RelS.wipe h vs
    unfold L2.wipe wipU
    refine ⟨by rw [List.length_set, List.length_set, ih.1], fun j w e => ?_⟩
    by_cases hj : v = j
    · subst hj
      by_cases hl : v < (wipU σu vs).length
      · rw [List.getElem?_set_self hl] at e
        cases e
      · rw [List.getElem?_eq_none (by rw [List.length_set]; omega)] at e
        cases e
    · rw [List.getElem?_set_ne hj] at e ⊢
      exact ih.2 j w e

def EvE (K : Fg) (t : TE) (f : WE) : Prop := ∀ (σ : L2.St) (H : Hp) (σu : SU) (M : Hm) (Qu : QU) (Q : VK), RelS K H σ σu → Sim K H M → f σu M Qu → Cont K H M Qu Q → t σ H Q
def EvT (K : Fg) (t : TT) (f : WT) : Prop := ∀ (σ : L2.St) (H : Hp) (σu : SU) (M : Hm) (Qu : Bool → Hm → Prop) (Q : Bool → Hp → Prop), RelS K H σ σu → Sim K H M → f σu M Qu → ContB K H M Qu Q → t σ H Q
def EvL (K : Fg) (t : TA) (f : WL) : Prop := ∀ (σ : L2.St) (H : Hp) (σu : SU) (M : Hm) (Qu : List U → Hm → Prop) (Q : List V → Hp → Prop), RelS K H σ σu → Sim K H M → f σu M Qu → ContL K H M Qu Q → t σ H Q
def ContO (K : Fg) (H : Hp) (M : Hm) (Qu : Option Int → Hm → Prop) (Q : Option Int → Hp → Prop) : Prop := ∀ o H' M', Stp H M H' M' → Sim K H' M' → Qu o M' → Q o H'
def EvO (K : Fg) (t : TO) (f : WO) : Prop := ∀ (σ : L2.St) (H : Hp) (σu : SU) (M : Hm) (Qu : Option Int → Hm → Prop) (Q : Option Int → Hp → Prop), RelS K H σ σu → Sim K H M → f σu M Qu → ContO K H M Qu Q → t σ H Q

def SE1 (X : Cx) (f : WE) (x : Expr) : Prop := ∃ t, PE X x t ∧ EvE X.K t f
def ST (X : Cx) (f : WT) (x : Expr) : Prop := ∃ t, PT X x t ∧ EvT X.K t f
def SE (X : Cx) (W : Wp) (x : Expr) : Prop := SE1 X W.e x ∧ ST X W.t x
def SA (X : Cx) (f : WL) (es : List Expr) : Prop := ∃ t, PA X es t ∧ EvL X.K t f
def SO (X : Cx) (f : WO) (e : Option Expr) : Prop := ∃ t, PO X e t ∧ EvO X.K t f

/-- its test is its value's truth -/
def plainT : Expr → Bool
  | .UnaryOp .Not _ _ => false
  | .BoolOp .. => false
  | .IfExp .. => false
  | .Compare .. => false
  | _ => true
section
variable {X : Cx}
theorem plainT_eq {e : Expr} (h : plainT e = true) (whole : Sem Value) : isTrue e X.env whole = (do let v ← whole; standAt e.pos; holding [v] (truthy v)) := by
  cases e with
  | UnaryOp op _ _ => cases op <;> first | (cases h; done) | rfl
  | BoolOp _ _ _ => cases h
  | IfExp _ _ _ _ => cases h
  | Compare _ _ _ _ => cases h
  | _ => rfl
theorem SE.ofE {f : WE} {x : Expr} (hx : plainT x = true) (h : SE1 X f x) : SE X (.ofE f) x := by
  refine ⟨h, ?_⟩
  obtain ⟨t, p, q⟩ := h
  refine ⟨_, pt_truth p (plainT_eq hx), fun σ H σu M Qu Q rs S hf c => ?_⟩
  exact q σ H σu M _ _ rs S hf fun v H' u M' st S' r hq => tru_of ⟨u, M', Qu, S', r, hq, c.tr S st⟩
theorem se_var {i : Nat} {x : Str} {pos : Pos} (hN : X.N[i]? = some x) (hv : Vis X.env.scope x) (hd : (x == ("__debug__" : Str)) = false) (hcd : (x == ("__classdict__" : Str)) = false) :
    SE1 X (fun σ M Q => ∃ u, σ[i]? = some (some u) ∧ Q u M) (.Name x pos) :=
  ⟨tVar i, pe_var hN hv hd hcd, fun σ H σu M Qu Q rs S ⟨u, e, q⟩ c =>
    let ⟨v, e1, r⟩ := rs.2 i u e
    ⟨v, e1, c.at_ S r q⟩⟩
theorem se_int {i : Int} {k : Nat} {pos : Pos} : SE1 X (fun _ M Q => Q (.int i) M) (.Constant (.int i) k pos) := ⟨_, pe_int, fun _ _ _ _ _ _ _ S q c => c.at_ S (.int i) q⟩
theorem se_str {i : Str} {k : Nat} {pos : Pos} : SE1 X (fun _ M Q => Q (.str i) M) (.Constant (.str i) k pos) := ⟨_, pe_str, fun _ _ _ _ _ _ _ S q c => c.at_ S (.str i) q⟩
theorem se_bl {i : Bool} {k : Nat} {pos : Pos} : SE1 X (fun _ M Q => Q (.bl i) M) (.Constant (.bool i) k pos) := ⟨_, pe_bl, fun _ _ _ _ _ _ _ S q c => c.at_ S (.bl i) q⟩
theorem se_non {k : Nat} {pos : Pos} : SE1 X (fun _ M Q => Q .non M) (.Constant .none k pos) := ⟨_, pe_non, fun _ _ _ _ _ _ _ S q c => c.at_ S .non q⟩
theorem sa_nil : SA X (fun _ M Q => Q [] M) [] := ⟨_, pa_nil, fun _ H _ M _ _ _ S q c => c _ _ _ _ (Stp.refl H M) S .nil q⟩
def isStar : Expr → Bool
  | .Starred .. => true
  | _ => false
theorem star_cons {e : Expr} {es : List Expr} {env : Env} (h : isStar e = false) : starEach (e :: es) env = (false, eval e env) :: starEach es env := by
  cases e <;> first | (cases h; done) | rfl
theorem star_plain {env : Env} {pos : Pos} : ∀ {es : List Expr}, es.all (fun e => !isStar e) = true → (backTo pos (starEach es env)).any (·.1) = false
  | [], _ => rfl
  | e :: es, h => by
    rw [List.all_cons, Bool.and_eq_true] at h
    have h1 : isStar e = false := by simpa using h.1
    rw [star_cons h1]
    exact star_plain (es := es) h.2
theorem sa_cons {e : Expr} {es : List Expr} {f : WE} {g : WL} (hs : isStar e = false) (h1 : SE1 X f e) (h2 : SA X g es) : SA X (fun σ M Q => f σ M fun x M1 => g σ M1 fun xs M2 => Q (x :: xs) M2) (e :: es) := by
  obtain ⟨t1, p1, q1⟩ := h1
  obtain ⟨t2, p2, q2⟩ := h2
  refine ⟨_, pa_cons p1 p2 (star_cons hs), fun σ H σu M Qu Q rs S hf c => ?_⟩
  refine q1 σ H σu M _ _ rs S hf fun v H1 u M1 st S1 r hq => ?_
  refine q2 σ H1 σu M1 _ _ (rs.stp S st) S1 hq fun vs H2 us M2 st2 S2 rl hq2 => ?_
  exact c _ _ _ _ (st.trans S st2) S2 (.cons (r.stp S1 st2) rl) hq2
theorem se_tup {es : List Expr} {g : WL} {k : Nat} {pos : Pos} (h : SA X g es) : SE1 X (fun σ M Q => g σ M fun xs M1 => xs.length ≤ LIM ∧ Q (.tup xs) M1) (.Tuple es k pos) := by
  obtain ⟨t, p, q⟩ := h
  refine ⟨_, pe_tup p, fun σ H σu M Qu Q rs S hf c => ?_⟩
  refine q σ H σu M _ _ rs S hf fun vs H1 us M1 st S1 r hq => ?_
  exact ⟨by rw [r.length]; exact le_line hq.1, fun n hn => (c.tr S st).tup S1 r hq.2 hn⟩
theorem se_lst {es : List Expr} {g : WL} {pos : Pos} (h : SA X g es) : SE1 X (fun σ M Q => g σ M fun xs M1 => xs.length ≤ LIM ∧ ∀ p, M1 p = none → Q (.ref p) (um M1 p (.lst xs))) (.List es pos) := by
  obtain ⟨t, p, q⟩ := h
  refine ⟨_, pe_lst p, fun σ H σu M Qu Q rs S hf c => ?_⟩
  refine q σ H σu M _ _ rs S hf fun vs H1 us M1 st S1 r hq => ?_
  exact ⟨by rw [r.length]; exact le_line hq.1, fun n hn => (c.tr S st).lst S1 r hq.2 hn⟩
theorem se_dnew {t : Bool} {pos : Pos} : SE1 X (fun _ M Q => ∀ p, M p = none → Q (.ref p) (um M p (.dct false t []))) (.Dict [] [] pos) := by
  cases t with
  | false =>
    refine ⟨_, pe_dnewK, fun σ H σu M Qu Q rs S hf c p hp => ?_⟩
    exact c _ _ (.ref p) _ (Stp.new S hp) (S.new (m := .dct false false []) hp ⟨[], upd_same, .nil⟩) (.ref p) (hf p (S.fr hp))
  | true =>
    refine ⟨_, pe_dnewT, fun σ H σu M Qu Q rs S hf c p hp => ?_⟩
    exact c _ _ (.ref p) _ (Stp.new S hp) (S.new (m := .dct false true []) hp ⟨[], upd_same, .nil⟩) (.ref p) (hf p (S.fr hp))
theorem two {f g : WE} {ta tb : TE} (q1 : EvE X.K ta f) (q2 : EvE X.K tb g) {h : U → U → Hm → QU → Prop} : EvE X.K (tOp (R2s X.K h) ta tb) (fun σ M Q => f σ M fun x M1 => g σ M1 fun y M2 => h x y M2 Q) := fun σ H σu M Qu Q rs S hf c => by
  refine q1 σ H σu M _ _ rs S hf fun v H1 u M1 st S1 r hq => ?_
  refine q2 σ H1 σu M1 _ _ (rs.stp S st) S1 hq fun v2 H2 u2 M2 st2 S2 r2 hq2 => ?_
  exact ⟨u, u2, M2, Qu, S2, r.stp S1 st2, r2, hq2, c.tr S (st.trans S st2)⟩
theorem se_bin {op : Bop} {a b : Expr} {f g : WE} {pos : Pos} (h1 : SE1 X f a) (h2 : SE1 X g b) : SE1 X (fun σ M Q => f σ M fun x M1 => g σ M1 fun y M2 => binW op x y M2 Q) (.BinOp a (bopOf op) b pos) := by
  obtain ⟨t1, p1, q1⟩ := h1
  obtain ⟨t2, p2, q2⟩ := h2
  exact ⟨_, pe_op (op_binS op) p1 p2, two q1 q2⟩
theorem se_neg {a : Expr} {f : WE} {pos : Pos} (h1 : SE1 X f a) : SE1 X (fun σ M Q => f σ M fun x M1 => ∃ i, x = .int i ∧ Q (.int (-i)) M1) (.UnaryOp .USub a pos) := by
  obtain ⟨t1, p1, q1⟩ := h1
  refine ⟨_, pe_un un_neg p1, fun σ H σu M Qu Q rs S hf c => ?_⟩
  refine q1 σ H σu M _ _ rs S hf fun v H1 u M1 st S1 r hq => ?_
  obtain ⟨i, rfl, q⟩ := hq
  cases r
  exact ⟨i, rfl, (c.tr S st).at_ S1 (.int _) q⟩
theorem bl_same {Qu : Bool → Hm → Prop} : (fun (b : Bool) (M1 : Hm) => ∃ b', U.bl b = .bl b' ∧ Qu b' M1) = Qu := by
  funext b M1
  exact propext ⟨fun ⟨b', e, q⟩ => by cases e; exact q, fun q => ⟨b, rfl, q⟩⟩
/-- from a value that is a bool to a test -/
theorem ev_test {f : WT} {t : TE} (q : EvE X.K t (fun σ M Q => f σ M fun b M1 => Q (.bl b) M1)) : EvT X.K (tTest t) f := fun σ H σu M Qu Q rs S hf c => by
  refine q σ H σu M (fun u M' => ∃ b, u = .bl b ∧ Qu b M') _ rs S ?_ fun v H' u M' st S' r hq => ?_
  · show f σu M (fun (b : Bool) (M1 : Hm) => ∃ b', U.bl b = .bl b' ∧ Qu b' M1)
    rw [bl_same]
    exact hf
  · obtain ⟨b, rfl, hq⟩ := hq
    cases r
    exact ⟨b, rfl, c _ _ _ st S' hq⟩
theorem se_cmp {op : Cop} {a b : Expr} {f g : WE} {pos : Pos} (hu : X.A.units + 65 < cLine) (h1 : SE1 X f a) (h2 : SE1 X g b) (hm : behindInMarks (copOf op) b = false) :
    SE X (.ofB fun σ M Q => f σ M fun x M1 => g σ M1 fun y M2 => cmpW op x y M2 Q) (.Compare a [copOf op] [b] pos) := by
  obtain ⟨t1, p1, q1⟩ := h1
  obtain ⟨t2, p2, q2⟩ := h2
  have ev : EvE X.K (tOp (R2s X.K (asB (cmpW op))) t1 t2) (fun σ M Q => f σ M fun x M1 => g σ M1 fun y M2 => cmpW op x y M2 fun b M => Q (.bl b) M) := two q1 q2
  exact ⟨⟨_, pe_cmpR (op_cmpS hu op) p1 p2 hm, ev⟩, ⟨_, pt_cmpR (op_cmpS hu op) p1 p2 hm, ev_test ev⟩⟩
theorem se_chain {o1 o2 : Cop} {a b d : Expr} {f g h : WE} {pos : Pos} (hu : X.A.units + 65 < cLine) (h1 : SE1 X f a) (h2 : SE1 X g b) (h3 : SE1 X h d) (hm : lastMarks [copOf o1, copOf o2] [b, d] = false) :
    SE X (.ofB fun σ M Q => f σ M fun x M1 => g σ M1 fun y M2 => cmpW o1 x y M2 fun k M3 => if k = true then h σ M3 fun z M4 => cmpW o2 y z M4 Q else Q false M3) (.Compare a [copOf o1, copOf o2] [b, d] pos) := by
  obtain ⟨t1, p1, q1⟩ := h1
  obtain ⟨t2, p2, q2⟩ := h2
  obtain ⟨t3, p3, q3⟩ := h3
  have ev : EvE X.K (tChain (R2s X.K (asB (cmpW o1))) (R2s X.K (asB (cmpW o2))) t1 t2 t3) (fun σ M Q => f σ M fun x M1 => g σ M1 fun y M2 => cmpW o1 x y M2 fun k M3 => if k = true then h σ M3 fun z M4 => cmpW o2 y z M4 fun b M => Q (.bl b) M else Q (.bl false) M3) := fun σ H σu M Qu Q rs S hf c => by
    refine q1 σ H σu M _ _ rs S hf fun v H1 u M1 st S1 r hq => ?_
    refine q2 σ H1 σu M1 _ _ (rs.stp S st) S1 hq fun v2 H2 u2 M2 st2 S2 r2 hq2 => ?_
    refine ⟨u, u2, M2, fun b' M3 => ∃ k, b' = .bl k ∧ (if k = true then h σu M3 fun z M4 => cmpW o2 u2 z M4 fun b M => Qu (.bl b) M else Qu (.bl false) M3), S2, r.stp S1 st2, r2, ?_, ?_⟩
    · have e : (fun (k : Bool) (M3 : Hm) => ∃ k', U.bl k = .bl k' ∧ (if k' = true then h σu M3 fun z M4 => cmpW o2 u2 z M4 fun b M => Qu (.bl b) M else Qu (.bl false) M3)) = (fun k M3 => if k = true then h σu M3 fun z M4 => cmpW o2 u2 z M4 fun b M => Qu (.bl b) M else Qu (.bl false) M3) := by
        funext k M3
        exact propext ⟨fun ⟨k', e, q⟩ => by cases e; exact q, fun q => ⟨k, rfl, q⟩⟩
      show cmpW o1 u u2 M2 _
      rw [e]
      exact hq2
    · intro v3 H3 u3 M3 st3 S3 r3 hq3
      obtain ⟨k, rfl, hq3⟩ := hq3
      cases r3
      refine ⟨k, rfl, ?_⟩
      cases k with
      | false => exact c _ _ _ _ ((st.trans S st2).trans S st3) S3 (.bl _) hq3
      | true =>
        refine q3 σ H3 σu M3 _ _ (rs.stp S ((st.trans S st2).trans S st3)) S3 hq3 fun v4 H4 u4 M4 st4 S4 r4 hq4 => ?_
        exact ⟨u2, u4, M4, Qu, S4, (r2.stp S2 st3).stp S3 st4, r4, hq4, c.tr S (((st.trans S st2).trans S st3).trans S st4)⟩
  refine ⟨⟨_, pe_chain (op_cmpS hu o1) (op_cmpS hu o2) p1 p2 p3 hm, ?_⟩, ⟨_, pt_chain (op_cmpS hu o1) (op_cmpS hu o2) p1 p2 p3 hm, ev_test ?_⟩⟩
  · intro σ H σu M Qu Q rs S hf c
    exact ev σ H σu M Qu Q rs S hf c
  · intro σ H σu M Qu Q rs S hf c
    exact ev σ H σu M Qu Q rs S hf c
theorem rel_non {K : Fg} {H : Hp} {v : V} {u : U} (r : Rel K H v u) : decide (v = .non) = decide (u = .non) := by
  cases r <;> simp
theorem ev_isN {f : WE} {t : TE} (q1 : EvE X.K t f) : EvE X.K (tIsN t) (fun σ M Q => f σ M fun x M1 => Q (.bl (decide (x = .non))) M1) := fun σ H σu M Qu Q rs S hf c => by
  refine q1 σ H σu M _ _ rs S hf fun v H1 u M1 st S1 r hq => ?_
  rw [rel_non r]
  exact c _ _ _ _ st S1 (.bl _) hq
theorem ev_notN {f : WE} {t : TE} (q1 : EvE X.K t f) : EvE X.K (tNotN t) (fun σ M Q => f σ M fun x M1 => Q (.bl (!decide (x = .non))) M1) := fun σ H σu M Qu Q rs S hf c => by
  refine q1 σ H σu M _ _ rs S hf fun v H1 u M1 st S1 r hq => ?_
  rw [rel_non r]
  exact c _ _ _ _ st S1 (.bl _) hq
theorem se_isN {a : Expr} {f : WE} {k : Nat} {p1 pos : Pos} (h1 : SE1 X f a) : SE X (.ofB fun σ M Q => f σ M fun x M1 => Q (decide (x = .non)) M1) (.Compare a [.Is] [.Constant .none k p1] pos) := by
  obtain ⟨t1, p1, q1⟩ := h1
  exact ⟨⟨_, pe_cmp (pc_isN p1) rfl, ev_isN q1⟩, ⟨_, pt_cmp (pc_isN p1) rfl, ev_test (f := fun σ M Q => f σ M fun x M1 => Q (decide (x = .non)) M1) (ev_isN q1)⟩⟩
theorem se_notN {a : Expr} {f : WE} {k : Nat} {p1 pos : Pos} (h1 : SE1 X f a) : SE X (.ofB fun σ M Q => f σ M fun x M1 => Q (!decide (x = .non)) M1) (.Compare a [.IsNot] [.Constant .none k p1] pos) := by
  obtain ⟨t1, p1, q1⟩ := h1
  exact ⟨⟨_, pe_cmp (pc_notN p1) rfl, ev_notN q1⟩, ⟨_, pt_cmp (pc_notN p1) rfl, ev_test (f := fun σ M Q => f σ M fun x M1 => Q (!decide (x = .non)) M1) (ev_notN q1)⟩⟩
theorem se_isB {neg b : Bool} {a : Expr} {f : WE} {k : Nat} {p1 pos : Pos} (h1 : SE1 X f a) :
    SE X (.ofB fun σ M Q => f σ M fun x M1 => ∃ c, x = .bl c ∧ Q (if neg then !decide (c = b) else decide (c = b)) M1) (.Compare a [if neg then .IsNot else .Is] [.Constant (.bool b) k p1] pos) := by
  obtain ⟨t1, p1, q1⟩ := h1
  cases neg with
  | false =>
    have ev : EvE X.K (tOp rIsB t1 (tC (.bl b))) (fun σ M Q => f σ M fun x M1 => ∃ c, x = .bl c ∧ Q (.bl (decide (c = b))) M1) := fun σ H σu M Qu Q rs S hf c => by
      refine q1 σ H σu M _ _ rs S hf fun v H1 u M1 st S1 r hq => ?_
      obtain ⟨d, rfl, q⟩ := hq
      cases r
      exact ⟨d, b, rfl, rfl, c _ _ _ _ st S1 (.bl _) q⟩
    exact ⟨⟨_, pe_cmpR op_isBl p1 pe_bl (nomark _), ev⟩, ⟨_, pt_cmpR op_isBl p1 pe_bl (nomark _), ev_test (f := fun σ M Q => f σ M fun x M1 => ∃ c, x = .bl c ∧ Q (decide (c = b)) M1) ev⟩⟩
  | true =>
    have ev : EvE X.K (tOp rNotB t1 (tC (.bl b))) (fun σ M Q => f σ M fun x M1 => ∃ c, x = .bl c ∧ Q (.bl (!decide (c = b))) M1) := fun σ H σu M Qu Q rs S hf c => by
      refine q1 σ H σu M _ _ rs S hf fun v H1 u M1 st S1 r hq => ?_
      obtain ⟨d, rfl, q⟩ := hq
      cases r
      exact ⟨d, b, rfl, rfl, c _ _ _ _ st S1 (.bl _) q⟩
    exact ⟨⟨_, pe_cmpR op_notBl p1 pe_bl (nomark _), ev⟩, ⟨_, pt_cmpR op_notBl p1 pe_bl (nomark _), ev_test (f := fun σ M Q => f σ M fun x M1 => ∃ c, x = .bl c ∧ Q (!decide (c = b)) M1) ev⟩⟩
theorem se_not {a : Expr} {W : Wp} {pos : Pos} (h : SE X W a) : SE X ⟨fun σ M Q => bW W.e σ M fun b M1 => Q (.bl (!b)) M1, fun σ M Q => W.t σ M fun b M1 => Q (!b) M1, fun _ _ _ => False, fT, fT, fE, fE, fI⟩ (.UnaryOp .Not a pos) := by
  obtain ⟨⟨t1, p1, q1⟩, ⟨t2, p2, q2⟩⟩ := h
  refine ⟨⟨_, pe_not p1, fun σ H σu M Qu Q rs S hf c => ?_⟩, ⟨_, pt_not p2, fun σ H σu M Qu Q rs S hf c => ?_⟩⟩
  · refine q1 σ H σu M _ _ rs S hf fun v H1 u M1 st S1 r hq => ?_
    obtain ⟨b, rfl, q⟩ := hq
    cases r
    exact ⟨b, rfl, c _ _ _ _ st S1 (.bl _) q⟩
  · exact q2 σ H σu M _ _ rs S hf fun b H1 M1 st S1 hq => c _ _ _ st S1 hq
theorem se_ite {c0 a b : Expr} {fc : WT} {f g : WE} {pos : Pos} (hc : ST X fc c0) (h1 : SE1 X f a) (h2 : SE1 X g b) :
    SE1 X (fun σ M Q => fc σ M fun k M1 => if k = true then f σ M1 Q else g σ M1 Q) (.IfExp c0 a b pos) := by
  obtain ⟨t0, p0, q0⟩ := hc
  obtain ⟨t1, p1, q1⟩ := h1
  obtain ⟨t2, p2, q2⟩ := h2
  refine ⟨_, pe_ifExp p0 p1 p2, fun σ H σu M Qu Q rs S hf c => ?_⟩
  refine q0 σ H σu M _ _ rs S hf fun k H1 M1 st S1 hq => ?_
  cases k with
  | true => exact q1 σ H1 σu M1 Qu Q (rs.stp S st) S1 hq (c.tr S st)
  | false => exact q2 σ H1 σu M1 Qu Q (rs.stp S st) S1 hq (c.tr S st)
def notSlice : Expr → Bool
  | .Slice .. => false
  | _ => true
theorem plainIx_of {e : Expr} (h : notSlice e = true) : PlainIx e := fun o i => by
  cases e <;> first | (cases h; done) | rfl
theorem se_ix {a b : Expr} {f g : WE} {pos : Pos} (hu : X.A.units + 1 < cLine) (hs : notSlice b = true) (h1 : SE1 X f a) (h2 : SE1 X g b) : SE1 X (fun σ M Q => f σ M fun x M1 => g σ M1 fun y M2 => ixW x y M2 Q) (.Subscript a b pos) := by
  obtain ⟨t1, p1, q1⟩ := h1
  obtain ⟨t2, p2, q2⟩ := h2
  exact ⟨_, pe_ix (ix_S hu) p1 p2 (plainIx_of hs), two q1 q2⟩
theorem so_none : SO X (fun _ M Q => Q none M) none := ⟨_, po_none, fun σ H σu M Qu Q rs S hf c => c _ _ _ (Stp.refl H M) S hf⟩
theorem so_some {e : Expr} {f : WE} (h : SE1 X f e) : SO X (fun σ M Q => f σ M fun x M1 => ∃ i, x = .int i ∧ Q (some i) M1) (some e) := by
  obtain ⟨t, p, q⟩ := h
  refine ⟨_, po_some p, fun σ H σu M Qu Q rs S hf c => ?_⟩
  refine q σ H σu M _ _ rs S hf fun v H1 u M1 st S1 r hq => ?_
  obtain ⟨i, rfl, q⟩ := hq
  cases r
  exact ⟨i, rfl, c _ _ _ st S1 q⟩
theorem se_slice {a : Expr} {lo hi : Option Expr} {f : WE} {g h : WO} {p2 pos : Pos} (h1 : SE1 X f a) (h2 : SO X g lo) (h3 : SO X h hi) :
    SE1 X (fun σ M Q => f σ M fun x M1 => g σ M1 fun l M2 => h σ M2 fun u M3 => sliceW x l u M3 Q) (.Subscript a (.Slice lo hi none p2) pos) := by
  obtain ⟨t1, p1, q1⟩ := h1
  obtain ⟨t2, p2, q2⟩ := h2
  obtain ⟨t3, p3, q3⟩ := h3
  refine ⟨_, pe_slice sl_S p1 p2 p3, fun σ H σu M Qu Q rs S hf c => ?_⟩
  refine q1 σ H σu M _ _ rs S hf fun v H1 u M1 st S1 r hq => ?_
  refine q2 σ H1 σu M1 _ _ (rs.stp S st) S1 hq fun l H2 M2 st2 S2 hq2 => ?_
  refine q3 σ H2 σu M2 _ _ (rs.stp S (st.trans S st2)) S2 hq2 fun l3 H3 M3 st3 S3 hq3 => ?_
  exact ⟨u, M3, Qu, S3, (r.stp S1 st2).stp S2 st3, hq3, c.tr S ((st.trans S st2).trans S st3)⟩
/-- the promise of a def, said by values -/
def spOf (K : Fg) (g : List U → Hm → QU → Prop) : Sp := fun vs H Q _ => CRs K g vs H Q
theorem ev_call {g : WL} {t : TA} {r : List V → Hp → VK → Prop} {k : List U → Hm → QU → Prop} (q : EvL X.K t g) (hr : ∀ vs H Q, CRs X.K k vs H Q → r vs H Q) : EvE X.K (fun σ H Q => t σ H fun vs H1 => r vs H1 Q) (fun σ M Q => g σ M fun xs M1 => k xs M1 Q) := fun σ H σu M Qu Q rs S hf c => by
  refine q σ H σu M _ _ rs S hf fun vs H1 us M1 st S1 r1 hq => ?_
  exact hr _ _ _ ⟨us, M1, Qu, S1, r1, hq, c.tr S st⟩
theorem se_blt {f : Bfn} {v : Value} {x : Str} {e : Expr} {es : List Expr} {g : WL} {p pos : Pos} (hc : X.calm = true) (hb : bfnV f = some v) (hg : Gl X x) (hm : X.mg x = none) (hv : bootBuiltins x = some v) (hn : x ≠ "__name__") (hdb : (x == ("__debug__" : Str)) = false)
    (hs : (e :: es).all (fun e => !isStar e) = true) (h : SA X g (e :: es)) : SE1 X (fun σ M Q => g σ M fun xs M1 => bltW f xs M1 Q) (.Call (.Name x p) (e :: es) [] pos) := by
  obtain ⟨t, pt, q⟩ := h
  have hs2 : isStar e = false ∧ es.all (fun e => !isStar e) = true := by
    rw [List.all_cons, Bool.and_eq_true] at hs
    exact ⟨by simpa using hs.1, hs.2⟩
  have hr := cr_S (X := X) hc hb
  have bl : ∀ id, v = .builtin id → SE1 X (fun σ M Q => g σ M fun xs M1 => bltW f xs M1 Q) (.Call (.Name x p) (e :: es) [] pos) := fun id ev => by
    subst ev
    exact ⟨_, pe_callB hr hg hm hv pt hn hdb (star_cons hs2.1) (star_plain hs2.2), ev_call q fun _ _ _ z => z⟩
  have ty : ∀ id, v = .type id → SE1 X (fun σ M Q => g σ M fun xs M1 => bltW f xs M1 Q) (.Call (.Name x p) (e :: es) [] pos) := fun id ev => by
    subst ev
    exact ⟨_, pe_callTy hr hg hm hv pt hn hdb (star_cons hs2.1) (star_plain hs2.2), ev_call q fun _ _ _ z => z⟩
  cases f <;> first | (cases hb; done) | (cases hb; first | exact bl _ rfl | exact ty _ rfl)
theorem se_call {k : Nat} {f : Addr} {fd : FuncData} {ps : List Str} {x : Str} {e : Expr} {es : List Expr} {g : WL} {c : List U → Hm → QU → Prop} {p pos : Pos} (F : FnOk X.prog X.w X.K X.mg X.base CX0 k f fd ps (spOf X.K c)) (hr : Room k X.A) (hg : Gl X x) (hm : X.mg x = some (.ref f))
    (hk : PySem.W.keepIn X.K (.ref f) = true) (hb : Binds X.K fd ps []) (hdb : (x == ("__debug__" : Str)) = false) (hs : (e :: es).all (fun e => !isStar e) = true) (h : SA X g (e :: es)) :
    SE1 X (fun σ M Q => g σ M fun xs M1 => c xs M1 Q) (.Call (.Name x p) (e :: es) [] pos) := by
  obtain ⟨t, pt, q⟩ := h
  have hs2 : isStar e = false ∧ es.all (fun e => !isStar e) = true := by
    rw [List.all_cons, Bool.and_eq_true] at hs
    exact ⟨by simpa using hs.1, hs.2⟩
  refine ⟨_, pe_call F hr hg hm hk hb .nil pass0 pt hdb (star_cons hs2.1) (star_plain hs2.2), fun σ H σu M Qu Q rs S hf ct => ?_⟩
  refine q σ H σu M _ _ rs S hf fun vs H1 us M1 st S1 r1 hq => ?_
  rw [List.append_nil]
  exact ⟨us, M1, Qu, S1, r1, hq, ct.tr S st⟩
theorem se_call0 {k : Nat} {f : Addr} {fd : FuncData} {ps : List Str} {x : Str} {c : List U → Hm → QU → Prop} {p pos : Pos} (F : FnOk X.prog X.w X.K X.mg X.base CX0 k f fd ps (spOf X.K c)) (hr : Room k X.A) (hg : Gl X x) (hm : X.mg x = some (.ref f))
    (hk : PySem.W.keepIn X.K (.ref f) = true) (hb : Binds X.K fd ps []) (hdb : (x == ("__debug__" : Str)) = false) :
    SE1 X (fun σ M Q => c [] M Q) (.Call (.Name x p) [] [] pos) :=
  ⟨_, pe_call0 F hr hg hm hk hb .nil pass0 hdb, fun σ H σu M Qu Q rs S hf ct => ⟨[], M, Qu, S, .nil, hf, ct⟩⟩
theorem keep_base {o : Expr} {n : Str} {env : Env} (h : (match o with | .Call (.Name id _) [] [] _ => id != "super" | _ => true) = true) : attributeBase o n env (eval o env) = eval o env := by
  unfold attributeBase
  split
  · rename_i id p pos
    have h2 : (id != "super") = true := h
    simp [h2]
  · rfl
end
end Pl

set_option maxHeartbeats 4000000
/-! methods, isinstance, what is walked, comprehensions -/
namespace Pl
open PySem L2
section
variable {X : Cx}
theorem few_args {env : Env} {pos : Pos} {es : List Expr} (h : es.all (fun e => !isStar e) = true) (hl : es.length < 10) :
    ((backTo pos (starEach es env)).all (fun x => !x.1) && (backToKw pos (keywordEach [] env)).all (fun x => x.1.isSome)
      && decide (es.length + ([] : List Keyword).length + (if ([] : List Keyword).isEmpty then 0 else 1) < 30)) = true := by
  have h1 : (backTo pos (starEach es env)).all (fun x => !x.1) = true := by
    have h2 : ∀ es : List Expr, es.all (fun e => !isStar e) = true → (backTo pos (starEach es env)).all (fun x => !x.1) = true := by
      intro es
      induction es with
      | nil => intro _; rfl
      | cons e es ih =>
        intro h
        rw [List.all_cons, Bool.and_eq_true] at h
        rw [star_cons (by simpa using h.1)]
        exact ih h.2
    exact h2 es h
  rw [h1]
  simp [backToKw, keywordEach]
  omega
theorem rcv_ty {K : Fg} {m : Mfn} {T : String} {n : Str} {id : String} {x : V} {u : U} {H : Hp} {M : Hm} (S : Sim K H M) (r : Rel K H x u) (h : mfnT m = some (T, n, id)) (q : rcvW m u M) : tyV K T x H := by
  unfold mfnT at h
  unfold rcvW at q
  split at h <;> first | (cases h; done) | skip
  · cases h
    obtain ⟨p, us, rfl, e⟩ := q
    cases r
    obtain ⟨vs, e2, _⟩ := S _ _ e
    exact .inl ⟨rfl, vs, .inl (.inl e2)⟩
  · cases h
    obtain ⟨p, us, rfl, e⟩ := q
    cases r
    obtain ⟨vs, e2, _⟩ := S _ _ e
    exact .inl ⟨rfl, vs, .inl (.inl e2)⟩
  · cases h
    obtain ⟨p, us, rfl, e⟩ := q
    cases r
    obtain ⟨vs, e2, _⟩ := S _ _ e
    exact .inl ⟨rfl, vs, .inl (.inl e2)⟩
  · cases h
    obtain ⟨p, us, rfl, e⟩ := q
    cases r
    obtain ⟨vs, e2, _⟩ := S _ _ e
    exact .inl ⟨rfl, vs, .inl (.inl e2)⟩
  · cases h
    obtain ⟨s, rfl⟩ := q
    cases r
    exact rfl
theorem mt_S (m : Mfn) {T : String} {n : Str} {id : String} (h : mfnT m = some (T, n, id)) : PlainAttrs T ∧ Slot T n id ∧ typeOf (.builtin id) = pure (.type "method_descriptor") ∧ MtR X id (MRs X.K (mthW m)) := by
  unfold mfnT at h
  split at h <;> first | (cases h; done) | skip
  · cases h; exact ⟨PySem.F.plainAttrs_list, PySem.F.slot_list_append, PySem.F.type_list_append, mt_appendS⟩
  · cases h; exact ⟨PySem.F.plainAttrs_list, PySem.F.slot_list_extend, PySem.F.type_list_extend, mt_extendS⟩
  · cases h; exact ⟨PySem.F.plainAttrs_list, PySem.F.slot_list_pop, PySem.F.type_list_pop, mt_popS⟩
  · cases h; exact ⟨PySem.F.plainAttrs_list, PySem.F.slot_list_pop, PySem.F.type_list_pop, mt_popAtS⟩
  · cases h; exact ⟨PySem.F.plainAttrs_str, PySem.F.slot_str_split, PySem.F.type_str_split, mt_splitS⟩
def notSup : Expr → Bool
  | .Call (.Name id _) [] [] _ => id != "super"
  | _ => true
theorem base_of {o : Expr} {n : Str} {env : Env} (h : notSup o = true) : attributeBase o n env (eval o env) = eval o env := by
  unfold attributeBase
  split
  · rename_i id p pos
    have h2 : (id != "super") = true := h
    simp [h2]
  · rfl
theorem se_mth {m : Mfn} {T : String} {n : Str} {id : String} {o : Expr} {es : List Expr} {f : WE} {g : WL} {apos pos : Pos} (hm : mfnT m = some (T, n, id)) (hs : es.all (fun e => !isStar e) = true) (hl : es.length < 10) (hline : (apos.endLine == pos.line) = true) (hb : notSup o = true)
    (h1 : SE1 X f o) (h2 : SA X g es) (hg0 : es = [] → g = fun _ M Q => Q [] M) : SE1 X (fun σ M Q => f σ M fun x M1 => rcvW m x M1 ∧ g σ M1 fun xs M2 => mthW m x xs M2 Q) (.Call (.Attribute o n apos) es [] pos) := by
  obtain ⟨t1, p1, q1⟩ := h1
  obtain ⟨t2, p2, q2⟩ := h2
  obtain ⟨pa, sl, ty, mt⟩ := mt_S (X := X) m hm
  cases es with
  | nil =>
    rw [hg0 rfl]
    refine ⟨_, pe_bm0 pa sl ty mt p1 (base_of hb) hline, fun σ H σu M Qu Q rs S hf c => ?_⟩
    refine q1 σ H σu M _ _ rs S hf fun v H1 u M1 st S1 r hq => ?_
    exact ⟨rcv_ty S1 r hm hq.1, u, [], M1, Qu, S1, r, .nil, hq.2, c.tr S st⟩
  | cons e es =>
    have hs2 : isStar e = false ∧ es.all (fun e => !isStar e) = true := by
      rw [List.all_cons, Bool.and_eq_true] at hs
      exact ⟨by simpa using hs.1, hs.2⟩
    refine ⟨_, pe_bm pa sl ty mt p1 p2 (base_of hb) (few_args hs hl) hline (star_cons hs2.1) (star_plain hs2.2), fun σ H σu M Qu Q rs S hf c => ?_⟩
    refine q1 σ H σu M _ _ rs S hf fun v H1 u M1 st S1 r hq => ?_
    refine ⟨rcv_ty S1 r hm hq.1, ?_⟩
    refine q2 σ H1 σu M1 _ _ (rs.stp S st) S1 hq.2 fun vs H2 us M2 st2 S2 rl hq2 => ?_
    exact ⟨u, us, M2, Qu, S2, r.stp S1 st2, rl, hq2, c.tr S (st.trans S st2)⟩
theorem se_isinst {t : String} {x z : Str} {a : Expr} {f : WE} {p p2 pos : Pos} (ht : tyOk t = true) (hx : x = "isinstance") (hz : z = Str.ofString t) (hg : Gl X x) (hm : X.mg x = none) (hg2 : Gl X z) (hm2 : X.mg z = none) (hs : isStar a = false) (h1 : SE1 X f a) :
    SE X (.ofE fun σ M Q => f σ M fun x M1 => isTyW x t M1 fun b M2 => Q (.bl b) M2) (.Call (.Name x p) [a, .Name z p2] [] pos) := by
  obtain ⟨t1, p1, q1⟩ := h1
  subst hx hz
  have bz : bootBuiltins (Str.ofString t) = some (.type t) := by
    have ht2 : t = "tuple" ∨ t = "str" ∨ t = "int" ∨ t = "bool" ∨ t = "list" := by
      unfold tyOk at ht
      simp only [Bool.or_eq_true, beq_iff_eq] at ht
      rcases ht with (((h | h) | h) | h) | h
      · exact .inl h
      · exact .inr (.inl h)
      · exact .inr (.inr (.inl h))
      · exact .inr (.inr (.inr (.inl h)))
      · exact .inr (.inr (.inr (.inr h)))
    rcases ht2 with rfl | rfl | rfl | rfl | rfl <;> decide +kernel
  have nz : Str.ofString t ≠ "__name__" ∧ (Str.ofString t == ("__debug__" : Str)) = false := by
    have ht2 : t = "tuple" ∨ t = "str" ∨ t = "int" ∨ t = "bool" ∨ t = "list" := by
      unfold tyOk at ht
      simp only [Bool.or_eq_true, beq_iff_eq] at ht
      rcases ht with (((h | h) | h) | h) | h
      · exact .inl h
      · exact .inr (.inl h)
      · exact .inr (.inr (.inl h))
      · exact .inr (.inr (.inr (.inl h)))
      · exact .inr (.inr (.inr (.inr h)))
    rcases ht2 with rfl | rfl | rfl | rfl | rfl <;> decide +kernel
  have pz : PE X (.Name (Str.ofString t) p2) (tC (.ty t)) := pe_bltn hg2 hm2 bz rfl nz.1 nz.2
  have pall : PA X [a, .Name (Str.ofString t) p2] (tCons t1 (tCons (tC (.ty t)) tNil)) := pa_cons p1 (pa_cons pz pa_nil) (star_cons hs)
  refine SE.ofE rfl ⟨_, pe_callB call_isi hg hm (by decide +kernel) pall (by decide +kernel) (by decide +kernel) (star_cons hs) rfl, fun σ H σu M Qu Q rs S hf c => ?_⟩
  refine q1 σ H σu M _ _ rs S hf fun v H1 u M1 st S1 r hq => ?_
  obtain ⟨ty, b, h1, h2, h3⟩ := isTy_of (Q := fun b H => Q (.bl b) H) ht ⟨u, M1, fun b M2 => Qu (.bl b) M2, S1, r, hq, fun b H' M' st' S' q' => c _ _ _ _ (st.trans S st') S' (.bl b) q'⟩
  exact ⟨v, .ty t, ty, .type t, b, rfl, .ty t, h1, h2, h3⟩

/-! ### what is walked -/
def ItOk (K : Fg) (H0 : Hp) (M0 : Hm) (J : It) (items : List U) (g : Hm → Prop) : Prop := ∀ (i : Nat) (H : Hp) (M : Hm), Stp H0 M0 H M → Sim K H M → g M →
  (∀ u, items[i]? = some u → J.go i H ∧ ∀ x H', J.yld i H x H' → Stp H M H' M ∧ Sim K H' M ∧ Rel K H' x u) ∧ (items.length ≤ i → J.stop i H)
abbrev QI := List U → (Hm → Prop) → ((Hm → Prop) → Hm → Prop) → Hm → Prop
def EvI (K : Fg) (t : TI) (f : WI) : Prop := ∀ (σ : L2.St) (H : Hp) (σu : SU) (M : Hm) (Qu : QI) (R : It → Hp → Prop), RelS K H σ σu → Sim K H M → f σu M Qu →
  (∀ J H' items g ex M', Stp H M H' M' → Sim K H' M' → ItOk K H' M' J items g → g M' → ex = (fun P => P) → Qu items g ex M' → R J H') → t σ H R
def SI (X : Cx) (tg iter : Expr) (f : WI) : Prop := ∃ t, PI X tg iter t ∧ EvI X.K t f
theorem it_list {K : Fg} {H0 : Hp} {M0 : Hm} {p : Addr} {us : List U} : ItOk K H0 M0 (Itl K p) us (fun M => M p = some (.lst us)) := fun i H M st S hm => by
  obtain ⟨vs, e, r⟩ := S p _ hm
  refine ⟨fun u hu => ?_, fun hl => ⟨vs, .inl (.inl e), by rw [r.length]; exact hl⟩⟩
  obtain ⟨v, ev, rv⟩ := r.get hu
  refine ⟨⟨vs, v, .inl (.inl e), ev⟩, fun x H' ⟨eH, hx⟩ => ?_⟩
  subst eH
  have e2 := hx vs (.inl (.inl e))
  rw [ev] at e2
  cases e2
  exact ⟨Stp.refl _ M, S, rv⟩
theorem it_rol {K : Fg} {H0 : Hp} {M0 : Hm} {p : Addr} {vs : List V} {us : List U} (S0 : Sim K H0 M0) (t : Rl K H0 p vs) (r0 : RelL K H0 vs us) : ItOk K H0 M0 (Itl K p) us (fun _ => True) := fun i H M st S _ => by
  have t1 := t.stp S0 st
  have r := r0.stp S0 st
  refine ⟨fun u hu => ?_, fun hl => ⟨vs, t1.sq, by rw [r.length]; exact hl⟩⟩
  obtain ⟨v, ev, rv⟩ := r.get hu
  refine ⟨⟨vs, v, t1.sq, ev⟩, fun x H' ⟨eH, hx⟩ => ?_⟩
  subst eH
  have e2 := hx vs t1.sq
  rw [ev] at e2
  cases e2
  exact ⟨Stp.refl _ M, S, rv⟩
theorem it_tup {K : Fg} {H0 : Hp} {M0 : Hm} {p : Addr} {vs : List V} {us : List U} (S0 : Sim K H0 M0) (t : Tp K H0 p vs) (r0 : RelL K H0 vs us) : ItOk K H0 M0 (Itt K p) us (fun _ => True) := fun i H M st S _ => by
  have t1 := t.stp S0 st
  have r := r0.stp S0 st
  refine ⟨fun u hu => ?_, fun hl => ⟨vs, t1.sq, by rw [r.length]; exact hl⟩⟩
  obtain ⟨v, ev, rv⟩ := r.get hu
  refine ⟨⟨vs, v, t1.sq, ev⟩, fun x H' ⟨eH, hx⟩ => ?_⟩
  subst eH
  have e2 := hx vs t1.sq
  rw [ev] at e2
  cases e2
  exact ⟨Stp.refl _ M, S, rv⟩
theorem it_rng {K : Fg} {H0 : Hp} {M0 : Hm} {a : Int} {n : Nat} : ItOk K H0 M0 (Itr a n) ((List.range n).map fun i => U.int (a + (i : Nat))) (fun _ => True) := fun i H M st S _ => by
  refine ⟨fun u hu => ?_, fun hl => ?_⟩
  rotate_left
  · have hl2 : n ≤ i := by simpa using hl
    exact hl2
  obtain ⟨h1, h2⟩ := List.getElem?_eq_some_iff.mp hu
  have h3 : i < n := by simpa using h1
  refine ⟨h3, fun x H' ⟨eH, hx⟩ => ?_⟩
  subst eH hx
  rw [← h2]
  refine ⟨Stp.refl _ M, S, ?_⟩
  simp only [List.getElem_map, List.getElem_range]
  exact .int _
/-- a list or a tuple (either is found when it is walked) -/
def iSq (K : Fg) (tl : TE) : TI := fun σ H R => tl σ H fun x H1 => ∃ a, x = .ref a ∧ (((∃ xs, SqL K H1 a xs) ∧ R (Itl K a) H1) ∨ ((∃ xs, SqT K H1 a xs) ∧ R (Itt K a) H1))
theorem pi_sq {tg l : Expr} {tl : TE} (hl : PE X l tl) : PI X tg l (iSq X.K tl) := by
  refine ⟨fun pins s σ H R I h => ?_⟩
  refine thn (hl.run pins s σ H _ I h) fun v s1 ⟨x, H1, I1, r, q⟩ => ?_
  obtain ⟨a, rfl, q⟩ := q
  obtain rfl : v = Value.ref a := r
  rcases q with ⟨⟨xs, hx⟩, q⟩ | ⟨⟨xs, hx⟩, q⟩
  · obtain ⟨its, rv, p, hz⟩ := I1.list hx
    exact PySem.wpAny_pyIter_list p.isList (pi_one I1 _ (turn_list a _) ⟨_, Heap.get?_push_size _ rfl, rfl, rfl⟩ q)
  · obtain ⟨its, rv, p, hz⟩ := I1.tuple hx
    exact PySem.wpAny_pyIter_tuple (show s1.heap.IsTuple a its.toArray from p) (pi_one I1 _ (turn_tuple a _) ⟨_, Heap.get?_push_size _ rfl, rfl, rfl⟩ q)
theorem si_seq {tg l : Expr} {f : WE} (h : SE1 X f l) : SI X tg l (fun σ M Q => f σ M fun x M1 => seqI x M1 Q) := by
  obtain ⟨t, p, q⟩ := h
  refine ⟨_, pi_sq p, fun σ H σu M Qu R rs S hf c => ?_⟩
  refine q σ H σu M _ _ rs S hf fun v H1 u M1 st S1 r hq => ?_
  unfold seqI at hq
  split at hq
  · cases r with
    | tup t rl => exact ⟨_, rfl, .inr ⟨⟨_, t.sq⟩, c _ _ _ _ _ _ st S1 (it_tup S1 t rl) trivial rfl hq⟩⟩
  · cases r with
    | rol t rl => exact ⟨_, rfl, .inl ⟨⟨_, t.sq⟩, c _ _ _ _ _ _ st S1 (it_rol S1 t rl) trivial rfl hq⟩⟩
  · obtain ⟨us, e, hq⟩ := hq
    cases r
    obtain ⟨vs, e2, _⟩ := S1 _ _ e
    exact ⟨_, rfl, .inl ⟨⟨_, .inl (.inl e2)⟩, c _ _ _ _ _ _ st S1 it_list e rfl hq⟩⟩
  · exact hq.elim
theorem si_rng {tg a : Expr} {f : WE} {x : Str} {p pos : Pos} (hx : x = "range") (hg : Gl X x) (hm : X.mg x = none) (hs : isStar a = false) (h : SE1 X f a) :
    SI X tg (.Call (.Name x p) [a] [] pos) (fun σ M Q => f σ M fun x M1 => ∃ n, x = .int n ∧ n ≤ LIM ∧ -LIM ≤ n ∧ Q (rngU 0 n) (fun _ => True) (fun P => P) M1) := by
  subst hx
  obtain ⟨t, pt, q⟩ := h
  refine ⟨_, pi_range1 hg hm (pa_cons pt pa_nil (star_cons hs)) (star_cons hs), fun σ H σu M Qu R rs S hf c => ?_⟩
  refine q σ H σu M _ _ rs S hf fun v H1 u M1 st S1 r hq => ?_
  obtain ⟨n, rfl, h1, h2, hq⟩ := hq
  cases r
  have hl : LIM = 100000 := rfl
  refine ⟨n, rfl, by omega, by omega, ?_⟩
  have e : rngU 0 n = (List.range n.toNat).map fun i => U.int (0 + (i : Nat)) := by
    unfold rngU
    rw [Int.sub_zero]
  rw [e] at hq
  exact c _ _ _ _ _ _ st S1 it_rng trivial rfl hq
theorem si_rng2 {tg a b : Expr} {f g : WE} {x : Str} {p pos : Pos} (hx : x = "range") (hg : Gl X x) (hm : X.mg x = none) (hs : isStar a = false) (hs2 : isStar b = false) (h : SE1 X f a) (h2 : SE1 X g b) :
    SI X tg (.Call (.Name x p) [a, b] [] pos) (fun σ M Q => f σ M fun x M1 => g σ M1 fun y M2 => ∃ m n, x = .int m ∧ y = .int n ∧ -LIM ≤ m ∧ m ≤ LIM ∧ n ≤ LIM ∧ -LIM ≤ n ∧ Q (rngU m n) (fun _ => True) (fun P => P) M2) := by
  subst hx
  obtain ⟨t, pt, q⟩ := h
  obtain ⟨t2, pt2, q2⟩ := h2
  have st2 : ∀ env : Env, starEach [b] env = [(false, eval b env)] := fun env => star_cons hs2
  refine ⟨_, pi_range2 hg hm (pa_cons pt (pa_cons pt2 pa_nil (star_cons hs2)) (star_cons hs)) (by rw [star_cons hs, star_cons hs2] <;> rfl) (by rw [star_cons hs2] <;> rfl), fun σ H σu M Qu R rs S hf c => ?_⟩
  refine q σ H σu M _ _ rs S hf fun v H1 u M1 st S1 r hq => ?_
  refine q2 σ H1 σu M1 _ _ (rs.stp S st) S1 hq fun v2 H2 u2 M2 st2 S2 r2 hq2 => ?_
  obtain ⟨m, n, rfl, rfl, h1, h2, h3, h4, hq⟩ := hq2
  cases r
  cases r2
  have hl : LIM = 100000 := rfl
  refine ⟨m, n, rfl, by omega, ?_⟩
  exact c _ _ _ _ _ _ (st.trans S st2) S2 it_rng trivial rfl hq
end
end Pl

set_option maxHeartbeats 4000000
/-! targets, comprehensions, statements -/
namespace Pl
open PySem L2
def ContS (K : Fg) (H : Hp) (M : Hm) (Qu : SU → Hm → Prop) (Q : L2.St → Hp → Prop) : Prop := ∀ σ' H' σu' M', Stp H M H' M' → RelS K H' σ' σu' → Sim K H' M' → Qu σu' M' → Q σ' H'
/-- a target, assigned -/
def EvG (K : Fg) (t : TG) (tg : Tg) : Prop := ∀ (x : V) (u : U) (σ : L2.St) (H : Hp) (σu : SU) (M : Hm) (Qu : SU → Prop) (Q : L2.St → Hp → Prop), RelS K H σ σu → Rel K H x u → tgW tg u σu Qu →
  (∀ σ' σu', RelS K H σ' σu' → Qu σu' → (∀ vs, (∀ i ∈ tg.slots, i ∈ vs) → L2.wipe σ' vs = L2.wipe σ vs) → Q σ' H) → t x σ H Q
def SG (X : Cx) (e : Expr) (tg : Tg) : Prop := ∃ t, PG X e t ∧ EvG X.K t tg
theorem setAll_len : ∀ (is : List Nat) (l : List U) (σ σ' : SU), setAll is l σ = some σ' → l.length = is.length
  | [], [], _, _, _ => rfl
  | [], _ :: _, _, _, h => by cases h
  | _ :: _, [], _, _, h => by cases h
  | i :: is, u :: us, σ, σ', h => by
    have q := setAll_len is us _ σ' h
    rw [List.length_cons, List.length_cons, q]
theorem wipe_set (σ : L2.St) (i : Nat) (x : Option V) : ∀ vs : List Nat, i ∈ vs → L2.wipe (σ.set i x) vs = L2.wipe σ vs
  | [], h => by cases h
  | v :: vs, h => by
    unfold L2.wipe
    by_cases hv : i ∈ vs
    · rw [wipe_set σ i x vs hv]
    · have e : i = v := by
        rcases List.mem_cons.mp h with e | e
        · exact e
        · exact absurd e hv
      subst e
      have h2 : ∀ ws : List Nat, i ∉ ws → L2.wipe (σ.set i x) ws = (L2.wipe σ ws).set i x := by
        intro ws
        induction ws with
        | nil => intro _; rfl
        | cons w ws ih =>
          intro hw
          have h3 : i ∉ ws := fun z => hw (List.mem_cons_of_mem _ z)
          have h4 : w ≠ i := fun z => hw (by rw [z]; exact List.mem_cons_self)
          unfold L2.wipe
          rw [ih h3, List.set_comm _ _ (fun z => h4 z.symm)]
      rw [h2 vs hv, List.set_set]
section
variable {X : Cx}
theorem sg_one {i : Nat} {x : Str} {pos : Pos} (hN : X.N.Nodup) (hi : X.N[i]? = some x) (hx : Loc X.env.scope x) (hf : X.fn x = true ∨ X.env.scope.names.lookup x = some .local) : SG X (.Name x pos) (.one i) :=
  ⟨_, pg_name hN hi hx hf, fun v u σ H σu M Qu Q rs r h c => c _ _ (rs.set r i) h fun vs hv => wipe_set σ i _ vs (hv i (by simp [Tg.slots]))⟩
def isName (c : Str → Bool) : Expr → Bool
  | .Name x _ => c x
  | _ => false
/-- the names and their slots -/
def namesB (N : List Str) (ok : Str → Bool) : List Nat → List Expr → Bool
  | [], [] => true
  | i :: is, .Name x _ :: es => decide (N[i]? = some x) && ok x && namesB N ok is es
  | _, _ => false
theorem names_each {N : List Str} {ok : Str → Bool} {env : Env} : ∀ {is : List Nat} {es : List Expr}, namesB N ok is es = true → (assignEach es env).length = is.length ∧ (assignEach es env).findIdx? (·.1) = none
  | [], [], _ => ⟨rfl, rfl⟩
  | i :: is, e :: es, h => by
    cases e <;> first | (simp [namesB] at h; done) | skip
    unfold namesB at h
    rw [Bool.and_eq_true] at h
    obtain ⟨a, b⟩ := names_each (env := env) h.2
    refine ⟨?_, ?_⟩
    · show (assignEach es env).length + 1 = is.length + 1
      rw [a]
    · show List.findIdx? (·.1) ((false, _) :: assignEach es env) = none
      rw [List.findIdx?_cons]
      simp only [Bool.false_eq_true, if_false]
      rw [b]
      rfl
  | [], _ :: _, h => by simp [namesB] at h
  | _ :: _, [], h => by simp [namesB] at h
theorem sgs_names {ok : Str → Bool} (hN : X.N.Nodup) (hok : ∀ x, ok x = true → Loc X.env.scope x ∧ (X.fn x = true ∨ X.env.scope.names.lookup x = some .local)) : ∀ {is : List Nat} {es : List Expr}, namesB X.N ok is es = true →
    ∃ t, PGs X es t ∧ ∀ (vs : List V) (us : List U) (σ : L2.St) (H : Hp) (σu σu' : SU) (Q : L2.St → Hp → Prop), RelS X.K H σ σu → RelL X.K H vs us → setAll is us σu = some σu' →
      (∀ σ', RelS X.K H σ' σu' → (∀ ws, (∀ i ∈ is, i ∈ ws) → L2.wipe σ' ws = L2.wipe σ ws) → Q σ' H) → t vs σ H Q
  | [], [], _ => ⟨_, pgs_nil, fun vs us σ H σu σu' Q rs r h c => by
    cases us with
    | nil =>
      cases r
      have e : some σu = some σu' := h
      cases e
      exact ⟨rfl, c σ rs fun _ _ => rfl⟩
    | cons _ _ => cases h⟩
  | i :: is, e :: es, h => by
    cases e <;> first | (simp [namesB] at h; done) | skip
    rename_i x pos
    unfold namesB at h
    rw [Bool.and_eq_true, Bool.and_eq_true] at h
    obtain ⟨⟨h1, h2⟩, h3⟩ := h
    obtain ⟨t, p, q⟩ := sgs_names hN hok h3
    obtain ⟨l1, l2⟩ := hok x h2
    refine ⟨_, pgs_cons (pg_name hN (of_decide_eq_true h1) l1 l2) p rfl, fun vs us σ H σu σu' Q rs r hs c => ?_⟩
    cases us with
    | nil => cases hs
    | cons u us =>
      cases r with
      | cons ra rb =>
        refine ⟨_, _, rfl, ?_⟩
        refine q _ _ _ H _ _ Q (rs.set ra i) rb hs fun σ' rs' hw => c σ' rs' fun ws hws => ?_
        rw [hw ws fun j hj => hws j (List.mem_cons_of_mem _ hj), wipe_set _ _ _ _ (hws i List.mem_cons_self)]
  | [], _ :: _, h => by simp [namesB] at h
  | _ :: _, [], h => by simp [namesB] at h
theorem sg_many {ok : Str → Bool} {is : List Nat} {es : List Expr} {k : Nat} {pos : Pos} (hc : X.calm = true) (hN : X.N.Nodup) (hok : ∀ x, ok x = true → Loc X.env.scope x ∧ (X.fn x = true ∨ X.env.scope.names.lookup x = some .local)) (h : namesB X.N ok is es = true) :
    SG X (.Tuple es k pos) (.many is) := by
  obtain ⟨t, p, q⟩ := sgs_names hN hok h
  obtain ⟨l1, l2⟩ := names_each (env := X.env) h
  refine ⟨_, pg_tup hc p l1 l2, fun v u σ H σu M Qu Q rs r hq c => ?_⟩
  obtain ⟨l, σ', rfl, hs, hq⟩ := hq
  cases r with
  | tup t1 rl =>
    have hlen : l.length = is.length := setAll_len is l σu σ' hs
    refine ⟨_, _, rfl, t1.sq, by rw [rl.length, hlen], ?_⟩
    exact q _ _ _ H _ _ Q rs rl hs fun σ1 rs1 hw => c σ1 σ' rs1 hq hw
end

/-! ### comprehensions -/
theorem Rel_updD {K : Fg} {H : Hp} {D : Addr} {xs ys : List V} (hD : H D = some (.lst xs)) : (∀ {v : V} {u : U}, Rel K H v u → Rel K (upd H D (.lst ys)) v u) ∧ (∀ {v : List V} {u : List U}, RelL K H v u → RelL K (upd H D (.lst ys)) v u) := by
  have tp : ∀ {a : Addr} {vs : List V}, Tp K H a vs → Tp K (upd H D (.lst ys)) a vs := fun {a vs} h => by
    have ne : a ≠ D := fun e => by
      have h2 : H a = some (.tup vs) := h
      rw [e, hD] at h2
      cases h2
    exact (upd_ne ne).trans h
  have rl : ∀ {a : Addr} {vs : List V}, Rl K H a vs → Rl K (upd H D (.lst ys)) a vs := fun {a vs} h => by
    rcases h with ⟨o, h⟩ | h
    · have ne : a ≠ D := fun e => by
        rw [e, hD] at h
        cases h
      exact .inl ⟨o, (upd_ne ne).trans h⟩
    · exact .inr h
  have both : ∀ n : Nat, (∀ {v : V} {u : U}, sizeOf u ≤ n → Rel K H v u → Rel K (upd H D (.lst ys)) v u) ∧ (∀ {v : List V} {u : List U}, sizeOf u ≤ n → RelL K H v u → RelL K (upd H D (.lst ys)) v u) := by
    intro n
    induction n with
    | zero =>
      refine ⟨fun {v u} h r => ?_, fun {v u} h r => ?_⟩
      · cases u <;> simp at h
      · cases u <;> simp at h
    | succ n ih =>
      refine ⟨fun {v u} h r => ?_, fun {v u} h r => ?_⟩
      · cases r with
        | non => exact .non
        | bl b => exact .bl b
        | int i => exact .int i
        | str x => exact .str x
        | ref a => exact .ref a
        | tup t rr => exact .tup (tp t) (ih.2 (by simp at h; omega) rr)
        | rol t rr => exact .rol (rl t) (ih.2 (by simp at h; omega) rr)
      · cases r with
        | nil => exact .nil
        | cons a b => exact .cons (ih.1 (by simp at h; omega) a) (ih.2 (by simp at h; omega) b)
  exact ⟨fun {v u} r => (both _).1 (Nat.le_refl _) r, fun {v u} r => (both _).2 (Nat.le_refl _) r⟩
theorem Sim_updD {K : Fg} {H : Hp} {M : Hm} {D : Addr} {xs ys : List V} (S : Sim K H M) (hD : H D = some (.lst xs)) (hM : M D = none) : Sim K (upd H D (.lst ys)) M := fun a o e => by
  have ne : a ≠ D := fun z => by rw [z, hM] at e; cases e
  obtain ⟨f, g⟩ := @Rel_updD K H D xs ys hD
  have q := S a o e
  cases o with
  | lst us =>
    obtain ⟨vs, e1, r⟩ := q
    exact ⟨vs, by rw [upd_ne ne]; exact e1, g r⟩
  | dct z t ks =>
    cases t with
    | false => obtain ⟨kvs, e1, r⟩ := q; exact ⟨kvs, by rw [upd_ne ne]; exact e1, Paired.mapR r fun p q x => ⟨x.1, f x.2⟩⟩
    | true => obtain ⟨kvs, e1, r⟩ := q; exact ⟨kvs, by rw [upd_ne ne]; exact e1, Paired.mapR r fun p q x => ⟨x.1, f x.2⟩⟩
theorem wipe_wipe (σ : L2.St) (ws : List Nat) : L2.wipe (L2.wipe σ ws) ws = L2.wipe σ ws := by
  have gen : ∀ (us ws : List Nat) (τ : L2.St), (∀ i ∈ us, i ∈ ws) → L2.wipe (L2.wipe τ us) ws = L2.wipe τ ws := by
    intro us
    induction us with
    | nil => intro ws τ _; rfl
    | cons u us ih =>
      intro ws τ hsub
      show L2.wipe ((L2.wipe τ us).set u none) ws = _
      rw [wipe_set _ _ _ _ (hsub u List.mem_cons_self)]
      exact ih ws τ fun i hi => hsub i (List.mem_cons_of_mem _ hi)
  exact gen ws ws σ fun i hi => hi
abbrev stepW (tg : Tg) (fc : WT) (fe : WE) (σu : SU) : U → (Option U → Hm → Prop) → Hm → Prop := fun x k M => tgW tg x (wipU σu tg.slots) fun σ2 => fc σ2 M fun b M2 => if b = true then fe σ2 M2 fun y M3 => k (some y) M3 else k none M2
theorem comp_core {K : Fg} {tgr : TG} {tg : Tg} {tt : TT} {fc : WT} {te : TE} {fe : WE} {vs : List Nat} (qg : EvG K tgr tg) (qc : EvT K tt fc) (qe : EvE K te fe) (hvs : vs = tg.slots)
    {σ : L2.St} {σu : SU} {H1 : Hp} {M1 : Hm} {J : It} {items : List U} {g : Hm → Prop} {fin : List U → Hm → Prop} (rs : RelS K H1 σ σu) (S1 : Sim K H1 M1) (ok : ItOk K H1 M1 J items g) (hg0 : g M1)
    (hc : compL (stepW tg fc fe σu) g fin items [] M1) {Q : VK}
    (hfin : ∀ D acc accV H2 M2, H1 D = none → Stp H1 M1 H2 M2 → Sim K H2 M2 → M2 D = none → H2 D = some (.lst accV) → RelL K H2 accV acc → g M2 → fin acc M2 → Q (.ref D) H2) :
    ∀ D, H1 D = none → ∃ W : Nat → Nat → Hp → Prop, (∃ m, W 0 m (upd H1 D (.lst []))) ∧ ∀ i m H, W i m H →
      (J.stop i H ∧ Q (.ref D) H) ∨ (J.go i H ∧ ∃ Nx : Hp → Prop, (∀ H', Nx H' → ∃ m', m' < m ∧ W (i + 1) m' H') ∧ ∀ x H', J.yld i H x H' → tgr x (L2.wipe σ vs) H' fun σ2 H2 => L2.wipe σ2 vs = L2.wipe σ vs ∧ tt σ2 H2 fun b H3 =>
        if b = true then te σ2 H3 fun y H4 => ∃ acc, H4 D = some (.lst acc) ∧ acc.length < sizeLine ∧ Nx (upd H4 D (.lst (acc ++ [y]))) else Nx H3) := fun D hD => by
  have hMD : M1 D = none := S1.fr hD
  have neD : ∀ a o, H1 a = some o → a ≠ D := fun a o h z => by rw [z, hD] at h; cases h
  have neM : ∀ a o, M1 a = some o → a ≠ D := fun a o h z => by rw [z, hMD] at h; cases h
  let W : Nat → Nat → Hp → Prop := fun i m H2 => m = items.length - i ∧ i ≤ items.length ∧ ∃ (M2 : Hm) (acc : List U) (accV : List V), Stp H1 M1 H2 M2 ∧ Sim K H2 M2 ∧ M2 D = none ∧ H2 D = some (.lst accV) ∧ RelL K H2 accV acc ∧ g M2 ∧
    compL (stepW tg fc fe σu) g fin (items.drop i) acc M2
  refine ⟨W, ⟨items.length, by simp, Nat.zero_le _, M1, [], [], Stp.newT S1 hD, ?_, hMD, upd_same, .nil, hg0, hc⟩, ?_⟩
  · exact S1.to (Stp.newT S1 hD) fun a x e => .inl ⟨e, upd_ne (neM a x e)⟩
  · rintro i m H2 ⟨rfl, hi, M2, acc, accV, st2, S2, hMD2, hD2, racc, hg, hc⟩
    obtain ⟨go, stop⟩ := ok i H2 M2 st2 S2 hg
    by_cases hlt : i < items.length
    · right
      have hu : items[i]? = some items[i] := List.getElem?_eq_getElem hlt
      obtain ⟨jgo, jy⟩ := go _ hu
      refine ⟨jgo, fun H' => ∃ m', m' < items.length - i ∧ W (i + 1) m' H', fun H' h => h, fun x H3 hy => ?_⟩
      obtain ⟨st3, S3, rx⟩ := jy x H3 hy
      have hdrop : items.drop i = items[i] :: items.drop (i + 1) := List.drop_eq_getElem_cons hlt
      rw [hdrop] at hc
      have hc : tgW tg items[i] (wipU σu tg.slots) fun σ2 => fc σ2 M2 fun b M3 => if b = true then fe σ2 M3 fun y M4 => (g M4 ∧ ((some y : Option U).isSome = true → acc.length < LIM) ∧ compL (stepW tg fc fe σu) g fin (items.drop (i + 1)) (acc ++ (some y).toList) M4)
          else (g M3 ∧ ((none : Option U).isSome = true → acc.length < LIM) ∧ compL (stepW tg fc fe σu) g fin (items.drop (i + 1)) (acc ++ (none : Option U).toList) M3) := hc
      have rs3 : RelS K H3 (L2.wipe σ vs) (wipU σu tg.slots) := by
        rw [hvs]
        exact (rs.stp S1 (st2.trans S1 st3)).wipe _
      refine qg x items[i] (L2.wipe σ vs) H3 (wipU σu tg.slots) M2 _ _ rs3 rx hc fun σ4 σu4 rs4 hc4 hw => ?_
      refine ⟨by
        have e := hw vs (by rw [hvs]; exact fun i hi => hi)
        rw [e]
        exact wipe_wipe σ vs, ?_⟩
      refine qc σ4 H3 σu4 M2 _ _ rs4 S3 hc4 fun b H5 M5 st5 S5 hb => ?_
      have stA : Stp H1 M1 H5 M5 := (st2.trans S1 st3).trans S1 st5
      have hD3 := st3.keep D _ hD2 hMD2
      have hD5 := st5.keep D _ hD3.1 hD3.2
      cases b with
      | false =>
        obtain ⟨g5, _, hrest⟩ := hb
        refine ⟨_, by omega, rfl, by omega, M5, acc, accV, stA, S5, hD5.2, hD5.1, (racc.stp S2 st3).stp S3 st5, g5, ?_⟩
        simpa using hrest
      | true =>
        refine qe σ4 H5 σu4 M5 _ _ (rs4.stp S3 st5) S5 hb fun y H6 uy M6 st6 S6 ry hk => ?_
        obtain ⟨g6, hsz, hrest⟩ := hk
        have hD6 := st6.keep D _ hD5.1 hD5.2
        have racc6 := ((racc.stp S2 st3).stp S3 st5).stp S5 st6
        obtain ⟨f1, f2⟩ := @Rel_updD K H6 D accV (accV ++ [y]) hD6.1
        refine ⟨accV, hD6.1, by rw [racc6.length]; exact lt_line (hsz rfl), _, by omega, rfl, by omega, M6, acc ++ [uy], accV ++ [y], ⟨fun a o h n => ?_, fun a t ks e => ?_⟩, Sim_updD S6 hD6.1 hD6.2, hD6.2, upd_same, f2 (racc6.append (.cons ry .nil)), g6, hrest⟩
        · have z := (stA.trans S1 st6).keep a o h n
          exact ⟨by rw [upd_ne (neD a o h)]; exact z.1, z.2⟩
        · have z := (stA.trans S1 st6).lock a t ks e
          exact ⟨by rw [upd_ne (neM a _ e)]; exact z.1, z.2⟩
    · left
      have e : i = items.length := by omega
      subst e
      refine ⟨stop (Nat.le_refl _), hfin D acc accV H2 M2 hD st2 S2 hMD2 hD2 racc hg ?_⟩
      have z := hc
      rw [List.drop_length] at z
      exact z
/-- the new list joins what may change -/
theorem join_new {K : Fg} {H : Hp} {M : Hm} {H1 : Hp} {M1 : Hm} {H2 : Hp} {M2 : Hm} {D : Addr} {acc : List U} {accV : List V} (S : Sim K H M) (st : Stp H M H1 M1) (S1 : Sim K H1 M1) (hD : H1 D = none) (st2 : Stp H1 M1 H2 M2) (S2 : Sim K H2 M2) (hD2 : H2 D = some (.lst accV)) (r : RelL K H2 accV acc) :
    Stp H M H2 (um M2 D (.lst acc)) ∧ Sim K H2 (um M2 D (.lst acc)) := by
  have z := st.trans S st2
  refine ⟨⟨fun a o h n => ?_, fun a t ks e => ?_⟩, fun a o ha => ?_⟩
  · have ne : a ≠ D := fun q => by
      have h2 := (st.keep a o h n).1
      rw [q, hD] at h2
      cases h2
    exact ⟨(z.keep a o h n).1, by rw [um_ne ne]; exact (z.keep a o h n).2⟩
  · have ne : a ≠ D := fun q => by
      obtain ⟨x, hx⟩ := (S a _ e).has
      have h2 := (st.lock a t ks e).1
      rw [hx, q, hD] at h2
      cases h2
    exact ⟨(z.lock a t ks e).1, by rw [um_ne ne]; exact (z.lock a t ks e).2⟩
  · by_cases hz : a = D
    · subst hz
      rw [um_same] at ha
      cases ha
      exact ⟨accV, hD2, r⟩
    · rw [um_ne hz] at ha
      exact S2 a o ha
theorem ev_comp {K : Fg} {ti : TI} {fi : WI} {tgr : TG} {tg : Tg} {tt : TT} {fc : WT} {te : TE} {fe : WE} {vs : List Nat} (qi : EvI K ti fi) (qg : EvG K tgr tg) (qc : EvT K tt fc) (qe : EvE K te fe) (hvs : vs = tg.slots) :
    EvE K (tLc ti tgr tt te vs) (compW fi tg fc fe) := fun σ H σu M Qu Q rs S hf c => by
  refine qi σ H σu M _ _ rs S hf fun J H1 items g ex M1 st S1 ok hg0 hex hq => ?_
  subst hex
  refine comp_core qg qc qe hvs (rs.stp S st) S1 ok hg0 hq fun D acc accV H2 M2 hD st2 S2 hMD2 hD2 r hg hfin => ?_
  obtain ⟨a, b⟩ := join_new S st S1 hD st2 S2 hD2 r
  exact c (.ref D) H2 (.ref D) _ a b (.ref D) (hfin D hMD2)
/-! ### over a dict's keys -/
theorem lock_stp {K : Fg} {H : Hp} {M : Hm} (S : Sim K H M) {d : Addr} {t : Bool} {ks : List (U × U)} (hm : M d = some (.dct false t ks)) :
    ∃ u, H d = some u ∧ Mut (some u) ∧ (∀ od, Stp H M (upd H d (.frz od u)) (um M d (.dct true t ks)) ∧ Sim K (upd H d (.frz od u)) (um M d (.dct true t ks)) ∧
      ((∃ kvs, u = .dK kvs ∧ RelK K H kvs ks ∧ t = false) ∨ ∃ kvs, u = .dT kvs ∧ RelT K H kvs ks ∧ t = true)) := by
  have q := S d _ hm
  cases t with
  | false =>
    obtain ⟨kvs, e, r⟩ := q
    refine ⟨_, e, trivial, fun od => ⟨Stp.mut hm, S.mut (m := .dct true false ks) hm rfl ⟨kvs, ⟨od, upd_same⟩, ?_⟩, .inl ⟨kvs, rfl, r, rfl⟩⟩⟩
    exact Paired.mapR r fun p q x => ⟨x.1, x.2.stp S (Stp.mut (m := .dct true false ks) hm)⟩
  | true =>
    obtain ⟨kvs, e, r⟩ := q
    refine ⟨_, e, trivial, fun od => ⟨Stp.mut hm, S.mut (m := .dct true true ks) hm rfl ⟨kvs, ⟨od, upd_same⟩, ?_⟩, .inr ⟨kvs, rfl, r, rfl⟩⟩⟩
    exact Paired.mapR r fun p q x => ⟨x.1, x.2.stp S (Stp.mut (m := .dct true true ks) hm)⟩
/-- what the walk yields -/
theorem it_keys {K : Fg} {H0 : Hp} {M0 : Hm} {d : Addr} {od : Obj} {kvs : List (Key × V)} {ks : List (U × U)} (e : H0 d = some (.frz od (.dK kvs))) (hm : M0 d = some (.dct true false ks)) (r : RelK K H0 kvs ks) : ItOk K H0 M0 (Itk d od kvs) (ks.map (·.1)) (fun M => M d = some (.dct true false ks)) := fun i H M st S hM => by
  have e2 : H d = some (.frz od (.dK kvs)) := by rw [(st.lock d _ _ hm).1, e]
  have rk := relK_keys r
  have hlen : kvs.length = (ks.map (·.1)).length := by rw [List.length_map]; exact RelK.len r
  refine ⟨fun u hu => ?_, fun hl => ⟨e2, by rw [hlen]; exact hl⟩⟩
  have hi : i < kvs.length := by rw [hlen]; exact (List.getElem?_eq_some_iff.mp hu).1
  refine ⟨⟨e2, hi⟩, fun x H' ⟨eH, k, v, hk, hx⟩ => ?_⟩
  subst eH hx
  refine ⟨Stp.refl _ M, S, ?_⟩
  obtain ⟨v2, h2, r2⟩ := rk.get hu
  rw [List.getElem?_map, hk] at h2
  cases h2
  cases k with
  | inl n =>
    have e3 : u = .int n := by cases r2; rfl
    rw [e3]
    exact .int n
  | inr n =>
    have e3 : u = .str n := by cases r2; rfl
    rw [e3]
    exact .str n
theorem relT_get {K : Fg} {H : Hp} : ∀ {kvs : List (List Key × V)} {ks : List (U × U)} {i : Nat} {u : U}, RelT K H kvs ks → (ks.map (·.1))[i]? = some u → ∃ k v, kvs[i]? = some (k, v) ∧ u = .tup (k.map keyU)
  | [], _, i, u, r, h => by unfold RelT at r; cases r; simp at h
  | (k, v) :: kvs, _, i, u, r, h => by
    unfold RelT at r
    cases r with
    | @cons p q ps qs a b => cases i with
      | zero =>
        simp at h
        exact ⟨k, v, rfl, by rw [← h]; exact a.1⟩
      | succ i =>
        obtain ⟨k2, v2, e1, e2⟩ := relT_get (K := K) (H := H) (kvs := kvs) (i := i) b (by simpa using h)
        exact ⟨k2, v2, by simpa using e1, e2⟩
theorem relL_keys {K : Fg} {H : Hp} : ∀ k : List Key, RelL K H (k.map kV) (k.map keyU)
  | [] => .nil
  | .inl i :: r => .cons (.int i) (relL_keys r)
  | .inr i :: r => .cons (.str i) (relL_keys r)
theorem it_keysT {K : Fg} {H0 : Hp} {M0 : Hm} {d : Addr} {od : Obj} {kvs : List (List Key × V)} {ks : List (U × U)} (e : H0 d = some (.frz od (.dT kvs))) (hm : M0 d = some (.dct true true ks)) (r : RelT K H0 kvs ks) : ItOk K H0 M0 (Itkt d od kvs) (ks.map (·.1)) (fun M => M d = some (.dct true true ks)) := fun i H M st S hM => by
  have e2 : H d = some (.frz od (.dT kvs)) := by rw [(st.lock d _ _ hm).1, e]
  have hlen : kvs.length = (ks.map (·.1)).length := by rw [List.length_map]; exact RelT.len r
  refine ⟨fun u hu => ?_, fun hl => ⟨e2, by rw [hlen]; exact hl⟩⟩
  have hi : i < kvs.length := by rw [hlen]; exact (List.getElem?_eq_some_iff.mp hu).1
  refine ⟨⟨e2, hi⟩, fun x H' ⟨eH, k, v, q, hk, hx, ht⟩ => ?_⟩
  subst eH hx
  refine ⟨Stp.refl _ M, S, ?_⟩
  obtain ⟨k2, v2, h2, e3⟩ := relT_get r hu
  rw [hk] at h2
  cases h2
  rw [e3]
  exact .tup ht (relL_keys k)
/-- the walk over a locked dict that stands in a slot -/
theorem keys_run {K : Fg} {σ : L2.St} {H : Hp} {d : Addr} {i : Nat} {od : Obj} {u : HO} {t : Bool} {ks : List (U × U)} {M : Hm} {R : It → Hp → Prop} (hs : σ[i]? = some (some (.ref d))) (S : Sim K H M) (he : H d = some (.frz od u)) (hm : M d = some (.dct true t ks))
    (hu : (∃ kvs, u = .dK kvs ∧ RelK K H kvs ks ∧ t = false) ∨ ∃ kvs, u = .dT kvs ∧ RelT K H kvs ks ∧ t = true) (k : ∀ J, ItOk K H M J (ks.map (·.1)) (fun M => M d = some (.dct true t ks)) → R J H) : L2.iKeys (tVar i) σ H R := by
  refine ⟨_, hs, d, od, rfl, ?_⟩
  rcases hu with ⟨kvs, rfl, r, rfl⟩ | ⟨kvs, rfl, r, rfl⟩
  · exact .inl ⟨kvs, he, k _ (it_keys he hm r)⟩
  · exact .inr ⟨kvs, he, k _ (it_keysT he hm r)⟩
theorem hu_stp {K : Fg} {H H' : Hp} {M M' : Hm} (S : Sim K H M) (st : Stp H M H' M') {u : HO} {t : Bool} {ks : List (U × U)} (hu : (∃ kvs, u = .dK kvs ∧ RelK K H kvs ks ∧ t = false) ∨ ∃ kvs, u = .dT kvs ∧ RelT K H kvs ks ∧ t = true) :
    (∃ kvs, u = .dK kvs ∧ RelK K H' kvs ks ∧ t = false) ∨ ∃ kvs, u = .dT kvs ∧ RelT K H' kvs ks ∧ t = true := by
  rcases hu with ⟨kvs, e, r, e2⟩ | ⟨kvs, e, r, e2⟩
  · exact .inl ⟨kvs, e, Paired.mapR r fun p q x => ⟨x.1, x.2.stp S st⟩, e2⟩
  · exact .inr ⟨kvs, e, Paired.mapR r fun p q x => ⟨x.1, x.2.stp S st⟩, e2⟩
/-- unlocked again -/
theorem unlock_stp {K : Fg} {H : Hp} {M : Hm} {H1 : Hp} {M1 : Hm} {H2 : Hp} {M2 : Hm} {d : Addr} {od : Obj} {u : HO} {t : Bool} {ks : List (U × U)} (S : Sim K H M) (hm : M d = some (.dct false t ks)) (he1 : H1 d = some (.frz od u)) (hm1 : M1 d = some (.dct true t ks)) (st : Stp H M H1 M1) (S1 : Sim K H1 M1)
    (st2 : Stp H1 M1 H2 M2) (S2 : Sim K H2 M2) (hm2 : M2 d = some (.dct true t ks)) (hu : (∃ kvs, u = .dK kvs ∧ RelK K H2 kvs ks ∧ t = false) ∨ ∃ kvs, u = .dT kvs ∧ RelT K H2 kvs ks ∧ t = true) :
    H2 d = some (.frz od u) ∧ Stp H M (upd H2 d u) (um M2 d (.dct false t ks)) ∧ Sim K (upd H2 d u) (um M2 d (.dct false t ks)) ∧ (∀ v x, Rel K H2 v x → Rel K (upd H2 d u) v x) ∧ (∀ v x, RelL K H2 v x → RelL K (upd H2 d u) v x) := by
  have e2 : H2 d = some (.frz od u) := by rw [(st2.lock d _ _ hm1).1, he1]
  have tp : ∀ {a : Addr} {vs : List V}, Tp K H2 a vs → Tp K (upd H2 d u) a vs := fun {a vs} h => by
    have ne : a ≠ d := fun e => by
      have h2 : H2 a = some (.tup vs) := h
      rw [e, e2] at h2
      cases h2
    exact (upd_ne ne).trans h
  have nol : ∀ o vs, H2 d ≠ some (.frz o (.lst vs)) := fun o vs h => by
    rw [e2] at h
    rcases hu with ⟨kvs, rfl, _⟩ | ⟨kvs, rfl, _⟩ <;> cases h
  have rl : ∀ {a : Addr} {vs : List V}, Rl K H2 a vs → Rl K (upd H2 d u) a vs := fun {a vs} h => by
    rcases h with ⟨o, h⟩ | h
    · have ne : a ≠ d := fun e => nol o vs (by rw [← e]; exact h)
      exact .inl ⟨o, (upd_ne ne).trans h⟩
    · exact .inr h
  have both : ∀ n : Nat, (∀ {v : V} {x : U}, sizeOf x ≤ n → Rel K H2 v x → Rel K (upd H2 d u) v x) ∧ (∀ {v : List V} {x : List U}, sizeOf x ≤ n → RelL K H2 v x → RelL K (upd H2 d u) v x) := by
    intro n
    induction n with
    | zero =>
      refine ⟨fun {v u} h r => ?_, fun {v u} h r => ?_⟩
      · cases u <;> simp at h
      · cases u <;> simp at h
    | succ n ih =>
      refine ⟨fun {v u} h r => ?_, fun {v u} h r => ?_⟩
      · cases r with
        | non => exact .non
        | bl b => exact .bl b
        | int i => exact .int i
        | str x => exact .str x
        | ref a => exact .ref a
        | tup t rr => exact .tup (tp t) (ih.2 (by simp at h; omega) rr)
        | rol t rr => exact .rol (rl t) (ih.2 (by simp at h; omega) rr)
      · cases r with
        | nil => exact .nil
        | cons a b => exact .cons (ih.1 (by simp at h; omega) a) (ih.2 (by simp at h; omega) b)
  have f1 : ∀ v x, Rel K H2 v x → Rel K (upd H2 d u) v x := fun v x r => (both _).1 (Nat.le_refl _) r
  have f2 : ∀ v x, RelL K H2 v x → RelL K (upd H2 d u) v x := fun v x r => (both _).2 (Nat.le_refl _) r
  have z := st.trans S st2
  refine ⟨e2, ⟨fun a o h n => ?_, fun a t' ks' e => ?_⟩, fun a o ha => ?_, f1, f2⟩
  · have ne : a ≠ d := fun q => by rw [q, hm] at n; cases n
    exact ⟨by rw [upd_ne ne]; exact (z.keep a o h n).1, by rw [um_ne ne]; exact (z.keep a o h n).2⟩
  · have ne : a ≠ d := fun q => by rw [q, hm] at e; cases e
    exact ⟨by rw [upd_ne ne]; exact (z.lock a _ _ e).1, by rw [um_ne ne]; exact (z.lock a _ _ e).2⟩
  · by_cases hz : a = d
    · subst hz
      rw [um_same] at ha
      cases ha
      rcases hu with ⟨kvs, rfl, r, rfl⟩ | ⟨kvs, rfl, r, rfl⟩
      · exact ⟨kvs, upd_same, Paired.mapR r fun p q x => ⟨x.1, f1 _ _ x.2⟩⟩
      · exact ⟨kvs, upd_same, Paired.mapR r fun p q x => ⟨x.1, f1 _ _ x.2⟩⟩
    · rw [um_ne hz] at ha
      have q := S2 a o ha
      cases o with
      | lst us =>
        obtain ⟨vs, e1, r⟩ := q
        exact ⟨vs, by rw [upd_ne hz]; exact e1, f2 _ _ r⟩
      | dct z t ks =>
        cases t with
        | false => obtain ⟨kvs, e1, r⟩ := q; exact ⟨kvs, by rw [upd_ne hz]; exact e1, Paired.mapR r fun p q x => ⟨x.1, f1 _ _ x.2⟩⟩
        | true => obtain ⟨kvs, e1, r⟩ := q; exact ⟨kvs, by rw [upd_ne hz]; exact e1, Paired.mapR r fun p q x => ⟨x.1, f1 _ _ x.2⟩⟩
def keysI (i : Nat) : WI := fun σ M Q => ∃ j d t ks, E.var i = .var j ∧ σ[j]? = some (some (.ref d)) ∧ M d = some (.dct false t ks) ∧
      Q (ks.map (·.1)) (fun M' => M' d = some (.dct true t ks)) (fun P M' => M' d = some (.dct true t ks) ∧ P (um M' d (.dct false t ks))) (um M d (.dct true t ks))
theorem ev_compK {K : Fg} {i : Nat} {tgr : TG} {tg : Tg} {tt : TT} {fc : WT} {te : TE} {fe : WE} {vs : List Nat} (qg : EvG K tgr tg) (qc : EvT K tt fc) (qe : EvE K te fe) (hvs : vs = tg.slots) :
    EvE K (tLockE (tLc (L2.iKeys (tVar i)) tgr tt te vs)) (compW (keysI i) tg fc fe) := fun σ H σu M Qu Q rs S hf c => by
  obtain ⟨j, d, t, ks, ej, hs, hm, hq⟩ := hf
  cases ej
  obtain ⟨v, hv, rv⟩ := rs.2 i _ hs
  obtain rfl : v = .ref d := by cases rv; rfl
  obtain ⟨u, hd, mu, lk⟩ := lock_stp S hm
  refine ⟨d, u, hd, mu, fun od => ?_⟩
  obtain ⟨st, S1, hu⟩ := lk od
  have hu1 := hu_stp S st hu
  refine keys_run hv S1 upd_same um_same hu1 fun J ok => ?_
  refine comp_core (Q := fun v H' => H' d = some (.frz od u) ∧ Q v (upd H' d u)) qg qc qe hvs (rs.stp S st) S1 ok um_same hq fun D acc accV H2 M2 hD st2 S2 hMD2 hD2 r hg hfin => ?_
  obtain ⟨e2, st3, S3, f1, f2⟩ := unlock_stp S hm upd_same um_same st S1 st2 S2 hg (hu_stp S1 st2 hu1)
  refine ⟨e2, ?_⟩
  have ne : D ≠ d := fun z => by rw [z, upd_same] at hD; cases hD
  have hD3 : (upd H2 d u) D = some (.lst accV) := by rw [upd_ne ne]; exact hD2
  have hHD : H D = none := (upd_ne (H := H) (o := HO.frz od u) ne).symm.trans hD
  obtain ⟨a, b⟩ := join_new S (Stp.refl H M) S hHD st3 S3 hD3 (f2 _ _ r)
  refine c (.ref D) _ (.ref D) _ a b (.ref D) (hfin.2 D ?_)
  rw [um_ne ne]
  exact hMD2
end Pl

set_option maxHeartbeats 4000000
/-! canonical readings; comprehensions as expressions; statements -/
namespace Pl
open PySem L2
def cE (K : Fg) (f : WE) : TE := fun σ H Q => ∃ (σu : SU) (M : Hm) (Qu : QU), RelS K H σ σu ∧ Sim K H M ∧ f σu M Qu ∧ Cont K H M Qu Q
def cT (K : Fg) (f : WT) : TT := fun σ H Q => ∃ (σu : SU) (M : Hm) (Qu : Bool → Hm → Prop), RelS K H σ σu ∧ Sim K H M ∧ f σu M Qu ∧ ContB K H M Qu Q
def cG (K : Fg) (tg : Tg) : TG := fun x σ H Q => ∃ (u : U) (σu : SU) (Qu : SU → Prop), RelS K H σ σu ∧ Rel K H x u ∧ tgW tg u σu Qu ∧
  ∀ σ' σu', RelS K H σ' σu' → Qu σu' → (∀ vs, (∀ i ∈ tg.slots, i ∈ vs) → L2.wipe σ' vs = L2.wipe σ vs) → Q σ' H
theorem ev_cE {K : Fg} {f : WE} : EvE K (cE K f) f := fun σ H σu M Qu Q rs S hf c => ⟨σu, M, Qu, rs, S, hf, c⟩
theorem ev_cT {K : Fg} {f : WT} : EvT K (cT K f) f := fun σ H σu M Qu Q rs S hf c => ⟨σu, M, Qu, rs, S, hf, c⟩
theorem ev_cG {K : Fg} {tg : Tg} : EvG K (cG K tg) tg := fun x u σ H σu M Qu Q rs r h c => ⟨u, σu, Qu, rs, r, h, c⟩
theorem SE1.pe {X : Cx} {f : WE} {x : Expr} (h : SE1 X f x) : PE X x (cE X.K f) := by
  obtain ⟨t, p, q⟩ := h
  exact ⟨fun pins s σ H Q I ⟨σu, M, Qu, rs, S, hf, c⟩ => p.run pins s σ H Q I (q σ H σu M Qu Q rs S hf c)⟩
theorem ST.pt {X : Cx} {f : WT} {x : Expr} (h : ST X f x) : PT X x (cT X.K f) := by
  obtain ⟨t, p, q⟩ := h
  exact ⟨fun pins s σ H Q I ⟨σu, M, Qu, rs, S, hf, c⟩ => p.run pins s σ H Q I (q σ H σu M Qu Q rs S hf c)⟩
theorem SG.pg {X : Cx} {x : Expr} {tg : Tg} (h : SG X x tg) : PG X x (cG X.K tg) := by
  obtain ⟨t, p, q⟩ := h
  exact ⟨fun pins s σ H v u Q I r ⟨a, σu, Qu, rs, ra, hf, c⟩ => p.run pins s σ H v u Q I r (q v a σ H σu (fun _ => none) Qu Q rs ra hf c)⟩
section
variable {X : Cx}
/-- the block of a comprehension -/
abbrev Blk (X : Cx) (scope : Scope) (s : Shared) (H : Hp) (C : Addr) (cl : List (Str × Addr)) (fp : List Addr) : Cx := X.blk s H scope (compEnvC scope cl C X.env) fp
theorem no_set {iter : Expr} {env : Env} (h : (match iter with | .Set _ _ _ => false | _ => true) = true) : ∀ x, foldedSetIterable iter env x = pure x := fun x => by
  cases iter <;> first | (cases h; done) | rfl
def notSet : Expr → Bool
  | .Set _ _ _ => false
  | _ => true
theorem no_set' {iter : Expr} {env : Env} (h : notSet iter = true) : ∀ x, foldedSetIterable iter env x = pure x := fun x => by
  cases iter <;> first | (cases h; done) | rfl
structure CompOk (X : Cx) (tgE elt : Expr) (ifs : List Expr) (scope : Scope) (own : List (Str × Nat)) (tg : Tg) (fc : WT) (fe : WE) : Prop where
  calm : X.calm = true
  nd : X.N.Nodup
  blk : BlkOk X.N X.env.scope scope own
  own : own.map (·.2) = tg.slots
  g : ∀ s H C cl fp, SG (Blk X scope s H C cl fp) tgE tg
  c : (ifs = [] ∧ fc = fun _ M Q => Q true M) ∨ ∃ i, ifs = [i] ∧ ∀ s H C cl fp, ST (Blk X scope s H C cl fp) fc i
  e : ∀ s H C cl fp, SE1 (Blk X scope s H C cl fp) fe elt
theorem CompOk.run {tgE elt : Expr} {ifs : List Expr} {scope : Scope} {own : List (Str × Nat)} {tg : Tg} {fc : WT} {fe : WE} (h : CompOk X tgE elt ifs scope own tg fc fe) :
    ∃ tt, (∀ s H C cl fp, PG (Blk X scope s H C cl fp) tgE (cG X.K tg)) ∧ (∀ s H C cl fp, PTs (Blk X scope s H C cl fp) ifs tt) ∧ (∀ s H C cl fp, PE (Blk X scope s H C cl fp) elt (cE X.K fe)) ∧ EvT X.K tt fc := by
  rcases h.c with ⟨rfl, rfl⟩ | ⟨i, rfl, hi⟩
  · exact ⟨tYes, fun s H C cl fp => (h.g s H C cl fp).pg, fun _ _ _ _ _ => pts_nil, fun s H C cl fp => (h.e s H C cl fp).pe, fun σ H σu M Qu Q rs S hf c => c _ _ _ (Stp.refl H M) S hf⟩
  · exact ⟨cT X.K fc, fun s H C cl fp => (h.g s H C cl fp).pg, fun s H C cl fp => pts_one (hi s H C cl fp).pt, fun s H C cl fp => (h.e s H C cl fp).pe, ev_cT⟩
theorem se_comp {tgE iter elt : Expr} {ifs : List Expr} {scope : Scope} {own : List (Str × Nat)} {tg : Tg} {fi : WI} {fc : WT} {fe : WE} {pos : Pos} (hi : SI X tgE iter fi) (h : CompOk X tgE elt ifs scope own tg fc fe) (hs : notSet iter = true) :
    SE1 X (compW fi tg fc fe) (.ListComp elt [⟨tgE, iter, ifs, 0⟩] scope pos) := by
  obtain ⟨ti, p, q⟩ := hi
  obtain ⟨tt, h1, h2, h3, h4⟩ := h.run
  exact ⟨_, pe_lc h.calm h.nd p h.blk h1 h2 h3 (no_set' hs), ev_comp q ev_cG h4 ev_cE h.own⟩
theorem se_compK {tgE iter elt : Expr} {i : Nat} {ifs : List Expr} {scope : Scope} {own : List (Str × Nat)} {tg : Tg} {fc : WT} {fe : WE} {pos : Pos} (hi : PE X iter (tVar i)) (h : CompOk X tgE elt ifs scope own tg fc fe) (hs : notSet iter = true) :
    SE1 X (compW (keysI i) tg fc fe) (.ListComp elt [⟨tgE, iter, ifs, 0⟩] scope pos) := by
  obtain ⟨tt, h1, h2, h3, h4⟩ := h.run
  exact ⟨_, pe_lock (pe_lc h.calm h.nd (pi_keys hi) h.blk h1 h2 h3 (no_set' hs)), ev_compK ev_cG h4 ev_cE h.own⟩
end

/-! ### statements -/
structure ContD (K : Fg) (H : Hp) (M : Hm) (Du : EndsU) (D : Ends) : Prop where
  nx : ContS K H M Du.nx D.nx
  rt : Cont K H M Du.rt D.rt
  bk : ContS K H M Du.bk D.bk
  ct : ContS K H M Du.ct D.ct
theorem ContS.tr {K : Fg} {H H1 : Hp} {M M1 : Hm} {Qu : SU → Hm → Prop} {Q : L2.St → Hp → Prop} (S0 : Sim K H M) (t : Stp H M H1 M1) (c : ContS K H M Qu Q) : ContS K H1 M1 Qu Q := fun σ' H' σu' M' t' rs S q => c σ' H' σu' M' (t.trans S0 t') rs S q
theorem ContD.tr {K : Fg} {H H1 : Hp} {M M1 : Hm} {Du : EndsU} {D : Ends} (S0 : Sim K H M) (t : Stp H M H1 M1) (c : ContD K H M Du D) : ContD K H1 M1 Du D := ⟨c.nx.tr S0 t, c.rt.tr S0 t, c.bk.tr S0 t, c.ct.tr S0 t⟩
abbrev WSt := EndsU → SU → Hm → Prop
def EvS (K : Fg) (t : TS) (f : WSt) : Prop := ∀ (D : Ends) (Du : EndsU) (σ : L2.St) (H : Hp) (σu : SU) (M : Hm), RelS K H σ σu → Sim K H M → f Du σu M → ContD K H M Du D → t D σ H
def SS (X : Cx) (f : WSt) (st : Stmt) : Prop := ∃ t, PS X st t ∧ EvS X.K t f
def SSs (X : Cx) (f : WSt) (sts : List Stmt) : Prop := ∃ t, PSs X sts t ∧ EvS X.K t f
section
variable {X : Cx}
theorem sss_nil : SSs X (fun D σ M => D.nx σ M) [] := ⟨_, pss_nil, fun D Du σ H σu M rs S h c => c.nx _ _ _ _ (Stp.refl H M) rs S h⟩
theorem sss_one {st : Stmt} {f : WSt} (h : SS X f st) : SSs X f [st] := by
  obtain ⟨t, p, q⟩ := h
  exact ⟨t, pss_one p, q⟩
theorem sss_cons {st : Stmt} {sts : List Stmt} {f g : WSt} (h1 : SS X f st) (h2 : SSs X g sts) : SSs X (fun D σ M => f { D with nx := g D } σ M) (st :: sts) := by
  obtain ⟨t1, p1, q1⟩ := h1
  obtain ⟨t2, p2, q2⟩ := h2
  refine ⟨_, pss_cons p1 p2, fun D Du σ H σu M rs S h c => ?_⟩
  exact q1 _ { Du with nx := g Du } σ H σu M rs S h ⟨fun σ' H' σu' M' st rs' S' hq => q2 D Du σ' H' σu' M' rs' S' hq (c.tr S st), c.rt, c.bk, c.ct⟩
theorem ss_pass {pos : Pos} : SS X (fun D σ M => D.nx σ M) (.Pass pos) := ⟨_, ps_pass, fun D Du σ H σu M rs S h c => c.nx _ _ _ _ (Stp.refl H M) rs S h⟩
theorem ss_break {pos : Pos} : SS X (fun D σ M => D.bk σ M) (.Break pos) := ⟨_, ps_break, fun D Du σ H σu M rs S h c => c.bk _ _ _ _ (Stp.refl H M) rs S h⟩
theorem ss_cont {pos : Pos} : SS X (fun D σ M => D.ct σ M) (.Continue pos) := ⟨_, ps_continue, fun D Du σ H σu M rs S h c => c.ct _ _ _ _ (Stp.refl H M) rs S h⟩
theorem ss_nvr {st : Stmt} : SS X (fun _ _ _ => False) st := ⟨_, ps_never, fun D Du σ H σu M rs S h c => h.elim⟩
theorem sss_nvr {st : List Stmt} : SSs X (fun _ _ _ => False) st := ⟨_, pss_never, fun D Du σ H σu M rs S h c => h.elim⟩
theorem ss_ret {e : Expr} {f : WE} {pos : Pos} (h : SE1 X f e) : SS X (fun D σ M => f σ M D.rt) (.Return (some e) pos) := by
  obtain ⟨t, p, q⟩ := h
  exact ⟨_, ps_ret p, fun D Du σ H σu M rs S h c => q σ H σu M _ _ rs S h c.rt⟩
theorem ss_retN {pos : Pos} : SS X (fun D _ M => D.rt .non M) (.Return none pos) := ⟨_, ps_retN, fun D Du σ H σu M rs S h c => c.rt.at_ S .non h⟩
def isComp : Expr → Bool
  | .ListComp .. => true
  | .SetComp .. => true
  | .DictComp .. => true
  | _ => false
theorem no_swap {e : Expr} {t : Option Expr} {l : Nat} {env : Env} (h : isComp e = false) : swapsWith e t l env = pure false := by
  cases e <;> first | (cases h; done) | rfl
theorem ss_expr {e : Expr} {f : WE} {pos : Pos} (hc : isComp e = false) (h : SE1 X f e) : SS X (fun D σ M => f σ M fun _ M1 => D.nx σ M1) (.Expr e pos) := by
  obtain ⟨t, p, q⟩ := h
  refine ⟨_, ps_expr p (no_swap hc), fun D Du σ H σu M rs S h c => ?_⟩
  exact q σ H σu M _ _ rs S h fun v H' u M' st S' r hq => c.nx _ _ _ _ st (rs.stp S st) S' hq
theorem ev_asg {K : Fg} {i : Nat} {t : TE} {f : WE} (q : EvE K t f) : EvS K (tAsg t (gName i)) (fun D σ M => f σ M fun x M1 => D.nx (σ.set i (some x)) M1) := fun D Du σ H σu M rs S h c => by
  exact q σ H σu M _ _ rs S h fun v H' u M' st S' r hq => c.nx _ _ _ _ st ((rs.stp S st).set r i) S' hq
theorem ss_asg {i : Nat} {x : Str} {e : Expr} {f : WE} {pos pos' : Pos} (hN : X.N.Nodup) (hi : X.N[i]? = some x) (hx : Loc X.env.scope x) (hs : swapsWith e (some (.Name x pos')) pos.line X.env = pure false) (hf : X.fn x = true) (h : SE1 X f e) :
    SS X (fun D σ M => f σ M fun x M1 => D.nx (σ.set i (some x)) M1) (.Assign [.Name x pos'] e pos) := by
  obtain ⟨t, p, q⟩ := h
  exact ⟨_, ps_set hN hi hx p hs (.inl hf), ev_asg q⟩
/-- a comprehension whose value goes to a name on its line -/
theorem ss_asgC {i : Nat} {y : Str} {tgE iter elt : Expr} {ifs : List Expr} {scope : Scope} {own : List (Str × Nat)} {tg : Tg} {fi : WI} {fc : WT} {fe : WE} {pos pos' spos : Pos} (hy : X.N[i]? = some y) (hyl : X.env.scope.names.lookup y = some .local)
    (hsw : swapsWith (.ListComp elt [⟨tgE, iter, ifs, 0⟩] scope pos) (some (.Name y pos')) spos.line X.env = pure true) (hi : SI X tgE iter fi) (h : CompOk X tgE elt ifs scope own tg fc fe) (hs : notSet iter = true) :
    SS X (fun D σ M => compW fi tg fc fe σ M fun x M1 => D.nx (σ.set i (some x)) M1) (.Assign [.Name y pos'] (.ListComp elt [⟨tgE, iter, ifs, 0⟩] scope pos) spos) := by
  obtain ⟨ti, p, q⟩ := hi
  obtain ⟨tt, h1, h2, h3, h4⟩ := h.run
  exact ⟨_, ps_setLc h.calm h.nd hy hyl hsw p h.blk h1 h2 h3 (no_set' hs), ev_asg (ev_comp q ev_cG h4 ev_cE h.own)⟩
theorem ev_lockS {K : Fg} {i j : Nat} {tgr : TG} {tg : Tg} {tt : TT} {fc : WT} {te : TE} {fe : WE} {vs : List Nat} (qg : EvG K tgr tg) (qc : EvT K tt fc) (qe : EvE K te fe) (hvs : vs = tg.slots) :
    EvS K (tLock (tAsg (tLc (L2.iKeys (tVar i)) tgr tt te vs) (gName j))) (fun D σ M => compW (keysI i) tg fc fe σ M fun x M1 => D.nx (σ.set j (some x)) M1) := fun D Du σ H σu M rs S hf c => by
  have q := ev_compK (K := K) (i := i) qg qc qe hvs σ H σu M _ (fun v H' => D.nx (σ.set j (some v)) H') rs S hf fun v H' u M' st S' r hq => c.nx _ _ _ _ st ((rs.stp S st).set r j) S' hq
  exact q
theorem ss_asgCK {i j : Nat} {y : Str} {tgE iter elt : Expr} {ifs : List Expr} {scope : Scope} {own : List (Str × Nat)} {tg : Tg} {fc : WT} {fe : WE} {pos pos' spos : Pos} (hy : X.N[j]? = some y) (hyl : X.env.scope.names.lookup y = some .local)
    (hsw : swapsWith (.ListComp elt [⟨tgE, iter, ifs, 0⟩] scope pos) (some (.Name y pos')) spos.line X.env = pure true) (hi : PE X iter (tVar i)) (h : CompOk X tgE elt ifs scope own tg fc fe) (hs : notSet iter = true) :
    SS X (fun D σ M => compW (keysI i) tg fc fe σ M fun x M1 => D.nx (σ.set j (some x)) M1) (.Assign [.Name y pos'] (.ListComp elt [⟨tgE, iter, ifs, 0⟩] scope pos) spos) := by
  obtain ⟨tt, h1, h2, h3, h4⟩ := h.run
  exact ⟨_, ps_lock (ps_setLc h.calm h.nd hy hyl hsw (pi_keys hi) h.blk h1 h2 h3 (no_set' hs)), ev_lockS ev_cG h4 ev_cE h.own⟩
theorem swapSole {e t : Expr} {l : Nat} {env : Env} (h : isComp e = false ∨ (match t with | .Name .. => false | _ => true) = true) : swapsWithSole [t] e l env = pure false := by
  show swapsWith e (some t) l env = pure false
  rcases h with h | h
  · exact no_swap h
  · cases e <;> first | rfl | (cases t <;> first | (cases h; done) | rfl)
theorem no_stores {e t : Expr} {env : Env} (h : (match e with | .Tuple .. => false | _ => true) = true ∨ (match t with | .Tuple .. => false | .List .. => false | _ => true) = true) : swappedStores [t] e env = pure none := by
  rcases h with h | h
  · cases e <;> first | (cases h; done) | (cases t <;> rfl)
  · cases t <;> first | (cases h; done) | (cases e <;> rfl)
def notTup : Expr → Bool
  | .Tuple .. => false
  | _ => true
theorem ss_asgT {is : List Nat} {es : List Expr} {ok : Str → Bool} {k : Nat} {e : Expr} {f : WE} {tpos pos : Pos} (hc : X.calm = true) (hN : X.N.Nodup) (hok : ∀ x, ok x = true → Loc X.env.scope x ∧ (X.fn x = true ∨ X.env.scope.names.lookup x = some .local)) (hn : namesB X.N ok is es = true)
    (ht : notTup e = true) (h : SE1 X f e) : SS X (fun D σ M => f σ M fun x M1 => ∃ l σ', x = .tup l ∧ setAll is l σ = some σ' ∧ D.nx σ' M1) (.Assign [.Tuple es k tpos] e pos) := by
  obtain ⟨t, p, q⟩ := h
  obtain ⟨tg, pg, qg⟩ := sg_many (k := k) (pos := tpos) hc hN hok hn
  refine ⟨_, ps_asg p pg (swapSole (.inr rfl)) (no_stores (.inl (by cases e <;> first | (cases ht; done) | rfl))) rfl, fun D Du σ H σu M rs S hf c => ?_⟩
  refine q σ H σu M _ _ rs S hf fun v H' u M' st S' r hq => ?_
  exact qg v u σ H' σu M' (fun σ' => Du.nx σ' M') _ (rs.stp S st) r hq fun σ1 σu1 rs1 hq1 _ => c.nx _ _ _ _ st rs1 S' hq1
theorem ss_setIx {o i e : Expr} {f g h : WE} {tpos pos : Pos} (hu : X.A.units + 1 < cLine) (h1 : SE1 X f e) (h2 : SE1 X g o) (h3 : SE1 X h i) (hs : notSlice i = true) :
    SS X (fun D σ M => f σ M fun v M1 => g σ M1 fun x M2 => h σ M2 fun y M3 => setW x y v M3 (D.nx σ)) (.Assign [.Subscript o i tpos] e pos) := by
  obtain ⟨t1, p1, q1⟩ := h1
  obtain ⟨t2, p2, q2⟩ := h2
  obtain ⟨t3, p3, q3⟩ := h3
  refine ⟨_, ps_asg p1 (pg_sub p2 p3 (set_S hu) (fun v => by cases i <;> first | (cases hs; done) | rfl)) (swapSole (.inr rfl)) (no_stores (.inr rfl)) rfl, fun D Du σ H σu M rs S hf c => ?_⟩
  refine q1 σ H σu M _ _ rs S hf fun v H1 u M1 st S1 r hq => ?_
  refine q2 σ H1 σu M1 _ _ (rs.stp S st) S1 hq fun v2 H2 u2 M2 st2 S2 r2 hq2 => ?_
  have s12 := st.trans S st2
  refine q3 σ H2 σu M2 _ _ (rs.stp S s12) S2 hq2 fun v3 H3 u3 M3 st3 S3 r3 hq3 => ?_
  have s13 := s12.trans S st3
  exact ⟨u2, u3, u, M3, _, S3, r2.stp S2 st3, r3, (r.stp S1 st2).stp S2 st3, hq3, fun H' M' st' S' hq' => c.nx _ _ _ _ (s13.trans S st') (rs.stp S (s13.trans S st')) S' hq'⟩
def iopOf : Bop → Option Operator
  | .add => some .Add
  | .sub => some .Sub
  | _ => none
theorem ip_S {op : Bop} {o : Operator} (h : iopOf op = some o) : PIp X o (fun x y H Q => ∃ a b, x = .int a ∧ y = .int b ∧ Q (.int (if op = .add then a + b else a - b)) H) := by
  cases op <;> first | (cases h; done) | skip
  · cases h
    exact ip_add
  · cases h
    exact ip_sub
theorem bin_int {op : Bop} {o : Operator} (h : iopOf op = some o) {a b : Int} {M : Hm} {Q : QU} (q : binW op (.int a) (.int b) M Q) : Q (.int (if op = .add then a + b else a - b)) M := by
  cases op <;> first | (cases h; done) | exact q
theorem ss_augV {i : Nat} {x : Str} {e : Expr} {f : WE} {op : Bop} {o : Operator} {pos pos' : Pos} (ho : iopOf op = some o) (hN : X.N.Nodup) (hi : X.N[i]? = some x) (hx : Loc X.env.scope x) (hf : X.fn x = true) (h : SE1 X f e) :
    SS X (fun D σ M => ∃ x, σ[i]? = some (some x) ∧ f σ M fun y M1 => ∃ a b, x = .int a ∧ y = .int b ∧ binW op x y M1 fun z M2 => D.nx (σ.set i (some z)) M2) (.AugAssign (.Name x pos') o e pos) := by
  obtain ⟨t, p, q⟩ := h
  refine ⟨_, ps_aug hN hi hx p (ip_S ho) (.inl hf), fun D Du σ H σu M rs S hf c => ?_⟩
  obtain ⟨u, hu, hf⟩ := hf
  obtain ⟨v, hv, rv⟩ := rs.2 i u hu
  refine ⟨v, hv, q σ H σu M _ _ rs S hf fun v2 H' u2 M' st S' r hq => ?_⟩
  obtain ⟨a, b, rfl, rfl, hq⟩ := hq
  have rv := rv.stp S st
  cases rv
  cases r
  exact ⟨a, b, rfl, rfl, c.nx _ _ _ _ st ((rs.stp S st).set (.int _) i) S' (bin_int ho hq)⟩
/-- o[i] by values -/
theorem get_S (hu : X.A.units + 1 < cLine) : PGet X (R2s X.K getW) := by
  intro pins s σ H o i ov iv Q I ro ri h
  obtain ⟨a, b, M, Qu, S, ra, rb, hf, c⟩ := h
  unfold getW at hf
  have hn := line63
  split at hf
  · rcases hf with ⟨us, j, w, h1, rfl, e, q⟩ | ⟨z, t, ks, w, h1, h2, e, q⟩
    · cases rb
      cases ra
      obtain ⟨vs, e2, r⟩ := S _ _ h1
      obtain ⟨v1, e1, r1⟩ := ix_pure r e
      obtain rfl : ov = Value.ref _ := ro
      obtain ⟨t', rfl⟩ := ri
      obtain ⟨its, r', pl, hz⟩ := I.list (.inl (.inl e2))
      obtain ⟨k, h1, h2, h3, h4, h5⟩ := atI_get e1
      obtain ⟨w', ew, rw'⟩ := r'.get h2
      have hl := r'.length
      have fin : EP X pins σ Q w' s := ⟨v1, H, I, rw', c.at_ S r1 q⟩
      by_cases h0 : 0 ≤ j
      · have hj : j.toNat = k := by
          rw [PySem.seqIndex_of h0 h5] at h1
          exact Option.some.inj h1
        exact PySem.wpAny_getItem_list (Q := EP X pins σ Q) pl.isList h0 (by omega) (by rw [hj]; simpa using ew) fin
      · have hj : (j + (its.toArray.size : Int)).toNat = k := by
          rw [PySem.seqIndex_neg (by omega) h4] at h1
          rw [List.size_toArray, ← hl]
          exact Option.some.inj h1
        exact PySem.wpAny_getItem_list_neg (Q := EP X pins σ Q) pl.isList (by omega) (by rw [List.size_toArray] <;> omega) (by omega) (by rw [hj]; simpa using ew) fin
    · obtain ⟨o', g, q2⟩ := dget_of S h1 h2 rb
      cases ra
      obtain rfl : ov = Value.ref _ := ro
      rcases q2 with ⟨_, e2⟩ | ⟨v1, u1, e1, e2, r1⟩
      · rw [e] at e2; cases e2
      · rw [e] at e2
        cases e2
        subst e1
        exact d_getItem hu I g ri fun w' s' I' rw' => ⟨_, H, I', rw', c.at_ S r1 q⟩
  · exact hf.elim
theorem ss_augIx {o i e : Expr} {f g h : WE} {op : Bop} {oo : Operator} {tpos pos : Pos} (ho : iopOf op = some oo) (hu : X.A.units + 1 < cLine) (h1 : SE1 X f o) (h2 : SE1 X g i) (h3 : SE1 X h e) (hs : notSlice i = true) :
    SS X (fun D σ M => f σ M fun x M1 => g σ M1 fun y M2 => getW x y M2 fun v M3 => h σ M3 fun z M4 => ∃ a b, v = .int a ∧ z = .int b ∧ binW op v z M4 fun r M5 => setW x y r M5 (D.nx σ)) (.AugAssign (.Subscript o i tpos) oo e pos) := by
  obtain ⟨t1, p1, q1⟩ := h1
  obtain ⟨t2, p2, q2⟩ := h2
  obtain ⟨t3, p3, q3⟩ := h3
  refine ⟨_, ps_augS p1 p2 (get_S hu) p3 (ip_S ho) (set_S hu) (fun ov iv new => by cases i <;> first | (cases hs; done) | rfl), fun D Du σ H σu M rs S hf c => ?_⟩
  refine q1 σ H σu M _ _ rs S hf fun v H1 u M1 st S1 r hq => ?_
  refine q2 σ H1 σu M1 _ _ (rs.stp S st) S1 hq fun v2 H2 u2 M2 st2 S2 r2 hq2 => ?_
  have s12 := st.trans S st2
  refine ⟨u, u2, M2, _, S2, r.stp S1 st2, r2, hq2, fun v3 H3 u3 M3 st3 S3 r3 hq3 => ?_⟩
  have s13 := s12.trans S st3
  refine q3 σ H3 σu M3 _ _ (rs.stp S s13) S3 hq3 fun v4 H4 u4 M4 st4 S4 r4 hq4 => ?_
  have s14 := s13.trans S st4
  obtain ⟨a, b, rfl, rfl, hq4⟩ := hq4
  cases r3
  cases r4
  refine ⟨a, b, rfl, rfl, ?_⟩
  have rr := ((r.stp S1 st2).stp S2 st3).stp S3 st4
  have rr2 := (r2.stp S2 st3).stp S3 st4
  exact ⟨u, u2, _, M4, _, S4, rr, rr2, .int _, bin_int ho hq4, fun H' M' st' S' hq' => c.nx _ _ _ _ (s14.trans S st') (rs.stp S (s14.trans S st')) S' hq'⟩
theorem ss_if {c0 : Expr} {a b : List Stmt} {fc : WT} {f g : WSt} {pos : Pos} (hc : ST X fc c0) (h1 : SSs X f a) (h2 : SSs X g b) : SS X (fun D σ M => fc σ M fun k M1 => if k = true then f D σ M1 else g D σ M1) (.If c0 a b pos) := by
  obtain ⟨t0, p0, q0⟩ := hc
  obtain ⟨t1, p1, q1⟩ := h1
  obtain ⟨t2, p2, q2⟩ := h2
  refine ⟨_, ps_if p0 p1 p2, fun D Du σ H σu M rs S hf c => ?_⟩
  refine q0 σ H σu M _ _ rs S hf fun k H1 M1 st S1 hq => ?_
  cases k with
  | true => exact q1 D Du σ H1 σu M1 (rs.stp S st) S1 hq (c.tr S st)
  | false => exact q2 D Du σ H1 σu M1 (rs.stp S st) S1 hq (c.tr S st)
theorem ss_whl {c0 : Expr} {b : List Stmt} {fc : WT} {f : WSt} {pos : Pos} (hx : X.xe = fun _ _ => False) (hc : ST X fc c0) (h1 : SSs X f b) :
    SS X (fun D σ M => ∃ W : Nat → SU → Hm → Prop, (∃ m, W m σ M) ∧ ∀ m σ M, W m σ M → fc σ M fun k M1 =>
      if k = true then f ⟨fun σ' M' => ∃ m', m' < m ∧ W m' σ' M', D.rt, D.nx, fun σ' M' => ∃ m', m' < m ∧ W m' σ' M'⟩ σ M1 else D.nx σ M1) (.While c0 b [] pos) := by
  obtain ⟨t0, p0, q0⟩ := hc
  obtain ⟨t1, p1, q1⟩ := h1
  refine ⟨_, ps_while (by rw [hx]; exact PassesOwn.never) p0 p1, fun D Du σ H σu M rs S hf c => ?_⟩
  obtain ⟨W, ⟨m0, w0⟩, turn⟩ := hf
  refine ⟨fun m σ2 H2 => ∃ σu2 M2, Stp H M H2 M2 ∧ RelS X.K H2 σ2 σu2 ∧ Sim X.K H2 M2 ∧ W m σu2 M2, ⟨m0, σu, M, Stp.refl H M, rs, S, w0⟩, ?_⟩
  rintro m σ2 H2 ⟨σu2, M2, st2, rs2, S2, w2⟩
  refine q0 σ2 H2 σu2 M2 _ _ rs2 S2 (turn m σu2 M2 w2) fun k H3 M3 st3 S3 hq => ?_
  have s3 := st2.trans S st3
  have rs3 := rs2.stp S2 st3
  cases k with
  | false => exact c.nx _ _ _ _ s3 rs3 S3 hq
  | true =>
    refine ⟨fun σ' H' => ∃ m', m' < m ∧ ∃ σu2 M2, Stp H M H' M2 ∧ RelS X.K H' σ' σu2 ∧ Sim X.K H' M2 ∧ W m' σu2 M2, fun _ _ z => z, ?_⟩
    have back : ContS X.K H3 M3 (fun σ' M' => ∃ m', m' < m ∧ W m' σ' M') (fun σ' H' => ∃ m', m' < m ∧ ∃ σu2 M2, Stp H M H' M2 ∧ RelS X.K H' σ' σu2 ∧ Sim X.K H' M2 ∧ W m' σu2 M2) := fun σ' H' σu' M' st' rs' S' ⟨m', hm, w'⟩ => ⟨m', hm, σu', M', s3.trans S st', rs', S', w'⟩
    exact q1 _ _ σ2 H3 σu2 M3 rs3 S3 hq ⟨back, c.rt.tr S s3, c.nx.tr S s3, back⟩
/-- the turns of a for -/
abbrev turnW (tg : Tg) (f : WSt) (D : EndsU) (ex : (Hm → Prop) → Hm → Prop) : U → (SU → Hm → Prop) → SU → Hm → Prop := fun x nx σ M => tgW tg x σ fun σ2 => f ⟨nx, fun u M => ex (D.rt u) M, fun σ M => ex (D.nx σ) M, nx⟩ σ2 M
def forW (fi : WI) (tg : Tg) (f : WSt) : WSt := fun D σ M => fi σ M fun items g ex M1 => forL (turnW tg f D ex) g (fun σ M => ex (D.nx σ) M) items σ M1
theorem for_core {K : Fg} {tgr : TG} {tg : Tg} {tb : TS} {f : WSt} (qg : EvG K tgr tg) (qb : EvS K tb f) {σ : L2.St} {σu : SU} {H1 : Hp} {M1 : Hm} {J : It} {items : List U} {g : Hm → Prop} {ex : (Hm → Prop) → Hm → Prop} {D : Ends} {Du : EndsU}
    (rs : RelS K H1 σ σu) (S1 : Sim K H1 M1) (ok : ItOk K H1 M1 J items g) (hg0 : g M1) (hc : forL (turnW tg f Du ex) g (fun σ M => ex (Du.nx σ) M) items σu M1)
    (hnx : ContS K H1 M1 (fun σ M => ex (Du.nx σ) M) D.nx) (hend : ∀ σ' H' σu' M', Stp H1 M1 H' M' → RelS K H' σ' σu' → Sim K H' M' → g M' → ex (Du.nx σu') M' → D.nx σ' H') (hrt : Cont K H1 M1 (fun u M => ex (Du.rt u) M) D.rt) :
    ∃ W : Nat → Nat → L2.St → Hp → Prop, (∃ m, W 0 m σ H1) ∧ ∀ i m σ H, W i m σ H →
      (J.stop i H ∧ D.nx σ H) ∨ (J.go i H ∧ ∃ N : L2.St → Hp → Prop, (∀ σ' H', N σ' H' → ∃ m', m' < m ∧ W (i + 1) m' σ' H') ∧ ∀ x H', J.yld i H x H' → tgr x σ H' fun σ2 H2 => tb { D with nx := N, ct := N, bk := D.nx } σ2 H2) := by
  let W : Nat → Nat → L2.St → Hp → Prop := fun i m σ2 H2 => m = items.length - i ∧ i ≤ items.length ∧ ∃ (σu2 : SU) (M2 : Hm), Stp H1 M1 H2 M2 ∧ RelS K H2 σ2 σu2 ∧ Sim K H2 M2 ∧ g M2 ∧ forL (turnW tg f Du ex) g (fun σ M => ex (Du.nx σ) M) (items.drop i) σu2 M2
  refine ⟨W, ⟨items.length, by simp, Nat.zero_le _, σu, M1, Stp.refl H1 M1, rs, S1, hg0, hc⟩, ?_⟩
  rintro i m σ2 H2 ⟨rfl, hi, σu2, M2, st2, rs2, S2, hg, hc⟩
  obtain ⟨go, stop⟩ := ok i H2 M2 st2 S2 hg
  by_cases hlt : i < items.length
  · right
    have hu : items[i]? = some items[i] := List.getElem?_eq_getElem hlt
    obtain ⟨jgo, jy⟩ := go _ hu
    refine ⟨jgo, fun σ' H' => ∃ m', m' < items.length - i ∧ W (i + 1) m' σ' H', fun _ _ z => z, fun x H3 hy => ?_⟩
    obtain ⟨st3, S3, rx⟩ := jy x H3 hy
    have hdrop : items.drop i = items[i] :: items.drop (i + 1) := List.drop_eq_getElem_cons hlt
    rw [hdrop] at hc
    have s3 := st2.trans S1 st3
    have hc : tgW tg items[i] σu2 fun σ4 => f ⟨fun σ' M' => g M' ∧ forL (turnW tg f Du ex) g (fun σ M => ex (Du.nx σ) M) (items.drop (i + 1)) σ' M', fun u M => ex (Du.rt u) M, fun σ M => ex (Du.nx σ) M, fun σ' M' => g M' ∧ forL (turnW tg f Du ex) g (fun σ M => ex (Du.nx σ) M) (items.drop (i + 1)) σ' M'⟩ σ4 M2 := hc
    refine qg x items[i] σ2 H3 σu2 M2 _ _ (rs2.stp S2 st3) rx hc fun σ4 σu4 rs4 hb _ => ?_
    have back : ContS K H3 M2 (fun σ' M' => g M' ∧ forL (turnW tg f Du ex) g (fun σ M => ex (Du.nx σ) M) (items.drop (i + 1)) σ' M') (fun σ' H' => ∃ m', m' < items.length - i ∧ W (i + 1) m' σ' H') := fun σ' H' σu' M' st' rs' S' ⟨g', h'⟩ =>
      ⟨items.length - (i + 1), by omega, rfl, by omega, σu', M', s3.trans S1 st', rs', S', g', h'⟩
    exact qb _ _ σ4 H3 σu4 M2 rs4 S3 hb ⟨back, hrt.tr S1 s3, hnx.tr S1 s3, back⟩
  · left
    have e : i = items.length := by omega
    subst e
    have z := hc
    rw [List.drop_length] at z
    exact ⟨stop (Nat.le_refl _), hend _ _ _ _ st2 rs2 S2 hg z⟩
theorem ss_for {tgE iter : Expr} {body : List Stmt} {tg : Tg} {fi : WI} {f : WSt} {pos : Pos} (hx : X.xe = fun _ _ => False) (hc : X.calm = true) (hi : SI X tgE iter fi) (hg : SG X tgE tg) (hb : SSs X f body) (hs : notSet iter = true) : SS X (forW fi tg f) (.For tgE iter body [] pos) := by
  obtain ⟨ti, p, q⟩ := hi
  obtain ⟨tgr, pg, qg⟩ := hg
  obtain ⟨tb, pb, qb⟩ := hb
  refine ⟨_, ps_for (by rw [hx]; exact PassesOwn.never) hc p pg pb (no_set' hs), fun D Du σ H σu M rs S hf c => ?_⟩
  refine q σ H σu M _ _ rs S hf fun J H1 items g ex M1 st S1 ok hg0 hex hq => ?_
  subst hex
  exact for_core qg qb (rs.stp S st) S1 ok hg0 hq (c.nx.tr S st) (fun σ' H' σu' M' st' rs' S' _ hn => c.nx _ _ _ _ (st.trans S st') rs' S' hn) (c.rt.tr S st)
theorem ss_forK {tgE iter : Expr} {body : List Stmt} {i : Nat} {tg : Tg} {f : WSt} {pos : Pos} (hx : X.xe = fun _ _ => False) (hc : X.calm = true) (hi : PE X iter (tVar i)) (hg : SG X tgE tg) (hb : SSs X f body) (hs : notSet iter = true) : SS X (forW (keysI i) tg f) (.For tgE iter body [] pos) := by
  obtain ⟨tgr, pg, qg⟩ := hg
  obtain ⟨tb, pb, qb⟩ := hb
  refine ⟨_, ps_lock (ps_for (by rw [hx]; exact PassesOwn.never) hc (pi_keys hi) pg pb (no_set' hs)), fun D Du σ H σu M rs S hf c => ?_⟩
  obtain ⟨j, d, t, ks, ej, hs, hm, hq⟩ := hf
  cases ej
  obtain ⟨v, hv, rv⟩ := rs.2 i _ hs
  obtain rfl : v = .ref d := by cases rv; rfl
  obtain ⟨u, hd, mu, lk⟩ := lock_stp S hm
  refine ⟨d, u, hd, mu, fun od => ?_⟩
  obtain ⟨st, S1, hu⟩ := lk od
  have hu1 := hu_stp S st hu
  refine keys_run hv S1 upd_same um_same hu1 fun J ok => ?_
  have un : ∀ {H2 : Hp} {M2 : Hm}, Stp (upd H d (.frz od u)) (um M d (.dct true t ks)) H2 M2 → Sim X.K H2 M2 → M2 d = some (.dct true t ks) → _ := fun {H2 M2} st2 S2 hm2 => unlock_stp S hm upd_same um_same st S1 st2 S2 hm2 (hu_stp S1 st2 hu1)
  have nxK : ContS X.K (upd H d (.frz od u)) (um M d (.dct true t ks)) (fun σ M => M d = some (.dct true t ks) ∧ Du.nx σ (um M d (.dct false t ks))) (fun σ' H' => H' d = some (.frz od u) ∧ D.nx σ' (upd H' d u)) := fun σ' H' σu' M' st' rs' S' ⟨hm', hn⟩ => by
    obtain ⟨e2, st3, S3, f1, f2⟩ := un st' S' hm'
    exact ⟨e2, c.nx _ _ _ _ st3 ⟨rs'.1, fun i u e => let ⟨v, a, b⟩ := rs'.2 i u e; ⟨v, a, f1 _ _ b⟩⟩ S3 hn⟩
  refine for_core (D := ⟨fun σ' H' => H' d = some (.frz od u) ∧ D.nx σ' (upd H' d u), fun v H' => H' d = some (.frz od u) ∧ D.rt v (upd H' d u), fun σ' H' => H' d = some (.frz od u) ∧ D.bk σ' (upd H' d u), fun σ' H' => H' d = some (.frz od u) ∧ D.ct σ' (upd H' d u)⟩) (Du := Du)
    qg qb (rs.stp S st) S1 ok um_same hq nxK (fun σ' H' σu' M' st' rs' S' _ hn => nxK _ _ _ _ st' rs' S' hn) fun v H' x M' st' S' r' ⟨hm', hr⟩ => ?_
  obtain ⟨e2, st3, S3, f1, f2⟩ := un st' S' hm'
  exact ⟨e2, c.rt _ _ _ _ st3 S3 (f1 _ _ r') hr⟩
end
end Pl

set_option maxHeartbeats 4000000
/-! the check of a text against the small syntax, and what it is worth -/
namespace Pl
open PySem L2
structure Ck where
  sc : Scope
  N : List Str
  T : List Df
def visB (sc : Scope) (x : Str) : Bool := match sc.names.lookup x with
  | some .local => true
  | some .cell => true
  | some .free => true
  | _ => false
def locB (sc : Scope) (x : Str) : Bool := match sc.names.lookup x with
  | some .local => true
  | some .cell => true
  | _ => false
def ownB (sc : Scope) (x : Str) : Bool := match sc.names.lookup x with
  | some .local => true
  | _ => false
def glB (sc : Scope) (x : Str) : Bool := match sc.names.lookup x with
  | some .globalImplicit => true
  | _ => false
def okN (x : Str) : Bool := !(x == ("__debug__" : Str)) && !(x == ("__classdict__" : Str)) && !(x == ("__name__" : Str))
def varB (c : Ck) (i : Nat) (x : Str) : Bool := decide (c.N[i]? = some x) && visB c.sc x && okN x
def bfnN : Bfn → Str
  | .len => "len" | .list => "list" | .tuple => "tuple" | .int => "int" | .abs => "abs" | .max => "max" | .min => "min" | _ => ""
def bltNames : List Str := ["len", "list", "tuple", "int", "abs", "max", "min", "range", "isinstance", "str", "bool"]
def isKeysE : E → Bool
  | .iKeys _ => true
  | _ => false
def ckTg (tg : Tg) (N : List Str) (ok : Str → Bool) : Expr → Bool
  | .Name x _ => (match tg with | .one i => decide (N[i]? = some x) && ok x | _ => false)
  | .Tuple es _ _ => (match tg with | .many is => namesB N ok is es | _ => false)
  | _ => false
def gFn (c : Ck) (f n : Nat) (x : Str) : Bool := (match c.T[f]? with | some d => decide (d.name = x) && decide (d.ps.length = n) | none => false) && (glB c.sc x && okN x)
def gBl (c : Ck) (n x : Str) : Bool := decide (x = n) && (glB c.sc x && okN x)

mutual
def ckE : E → Ck → Expr → Bool
  | .var i, c, e => (match e with | .Name x _ => varB c i x | _ => false)
  | .int i, _, e => (match e with | .Constant (.int j) _ _ => decide (i = j) | _ => false)
  | .str i, _, e => (match e with | .Constant (.str j) _ _ => decide (i = j) | _ => false)
  | .bl i, _, e => (match e with | .Constant (.bool j) _ _ => decide (i = j) | _ => false)
  | .non, _, e => (match e with | .Constant .none _ _ => true | _ => false)
  | .nil, _, _ => false
  | .cons _ _, _, _ => false
  | .tup es, c, e => (match e with | .Tuple xs _ _ => ckL es c xs | _ => false)
  | .lst es, c, e => (match e with | .List xs _ => ckL es c xs | _ => false)
  | .dnew _, _, e => (match e with | .Dict [] [] _ => true | _ => false)
  | .bin op a b, c, e => (match e with | .BinOp x o y _ => decide (o = bopOf op) && (ckE a c x && ckE b c y) | _ => false)
  | .neg a, c, e => (match e with | .UnaryOp .USub x _ => ckE a c x | _ => false)
  | .cmp op a b, c, e => (match e with | .Compare x [o] [y] _ => decide (o = copOf op) && (!behindInMarks o y && (ckE a c x && ckE b c y)) | _ => false)
  | .chain o1 o2 a b d, c, e => (match e with | .Compare x [p, q] [y, z] _ => decide (p = copOf o1) && (decide (q = copOf o2) && (!lastMarks [p, q] [y, z] && (ckE a c x && (ckE b c y && ckE d c z)))) | _ => false)
  | .isN a, c, e => (match e with | .Compare x [.Is] [.Constant .none _ _] _ => ckE a c x | _ => false)
  | .notN a, c, e => (match e with | .Compare x [.IsNot] [.Constant .none _ _] _ => ckE a c x | _ => false)
  | .isB neg b a, c, e => (match e with | .Compare x [o] [.Constant (.bool b') _ _] _ => decide (o = if neg then CmpOp.IsNot else CmpOp.Is) && (decide (b' = b) && ckE a c x) | _ => false)
  | .ands es, c, e => (match e with | .BoolOp .And xs _ => !xs.isEmpty && ckL es c xs | _ => false)
  | .ors es, c, e => (match e with | .BoolOp .Or xs _ => !xs.isEmpty && ckL es c xs | _ => false)
  | .not a, c, e => (match e with | .UnaryOp .Not x _ => ckE a c x | _ => false)
  | .ite d a b, c, e => (match e with | .IfExp x y z _ => ckE d c x && (ckE a c y && ckE b c z) | _ => false)
  | .slice a lo hi, c, e => (match e with
    | .Subscript x (.Slice l h none _) _ => ckE a c x && ((match l with | none => isNil lo | some y => !isNil lo && ckE lo c y) && (match h with | none => isNil hi | some y => !isNil hi && ckE hi c y))
    | _ => false)
  | .ix a i, c, e => (match e with | .Subscript x y _ => notSlice y && (ckE a c x && ckE i c y) | _ => false)
  | .call f es, c, e => (match e with | .Call (.Name x _) xs [] _ => gFn c f xs.length x && ckL es c xs | _ => false)
  | .blt f es, c, e => (match e with | .Call (.Name x _) xs [] _ => gBl c (bfnN f) x && ((bfnV f).isSome && (!xs.isEmpty && ckL es c xs)) | _ => false)
  | .mth m o es, c, e => (match e with
    | .Call (.Attribute y a apos) xs [] pos => (match mfnT m with | some t => decide (a = t.2.1) | none => false) && ((apos.endLine == pos.line) && (notSup y && (decide (xs.length < 10) && (ckE o c y && ckL es c xs))))
    | _ => false)
  | .isinst a t, c, e => (match e with | .Call (.Name x _) [y, .Name z _] [] _ => gBl c "isinstance" x && (gBl c (Str.ofString t) z && (tyOk t && (!isStar y && ckE a c y))) | _ => false)
  | .comp own tg it cnd elt, c, e => (match e with
    | .ListComp x [⟨g, itx, ifs, is_⟩] scope _ => decide (is_ = 0) && (ckI it c itx && (notSet itx && (blkC c.N c.sc scope own && (decide (own.map (·.2) = tg.slots) && (ckTg tg c.N (ownB (relS scope c.sc)) g &&
        ((match ifs with | [] => isNil cnd | [i] => !isNil cnd && ckE cnd ⟨relS scope c.sc, c.N, c.T⟩ i | _ => false) && ckE elt ⟨relS scope c.sc, c.N, c.T⟩ x))))))
    | _ => false)
  | .iSeq _, _, _ => false
  | .iRange _, _, _ => false
  | .iRange2 _ _, _, _ => false
  | .iEnum _, _, _ => false
  | .iKeys _, _, _ => false
def ckL : E → Ck → List Expr → Bool
  | .nil, _, xs => xs.isEmpty
  | .cons a b, c, xs => (match xs with | x :: xs => !isStar x && (ckE a c x && ckL b c xs) | [] => false)
  | _, _, _ => false
def ckI : E → Ck → Expr → Bool
  | .iSeq a, c, x => ckE a c x
  | .iRange a, c, e => (match e with | .Call (.Name x _) [y] [] _ => gBl c "range" x && (!isStar y && ckE a c y) | _ => false)
  | .iRange2 a b, c, e => (match e with | .Call (.Name x _) [y, z] [] _ => gBl c "range" x && (!isStar y && (!isStar z && (ckE a c y && ckE b c z))) | _ => false)
  | .iKeys a, c, e => (match e with | .Name x _ => (match a with | .var i => varB c i x | _ => false) | _ => false)
  | _, _, _ => false
end

/-- what stands around -/
structure Gd (X : Cx) (c : Ck) (k : Nat) (fa : Nat → Addr) (fd : Nat → FuncData) (C : CE) : Prop where
  sc : X.env.scope = c.sc
  N : X.N = c.N
  nd : c.N.Nodup
  calm : X.calm = true
  xe : X.xe = fun _ _ => False
  room : Room k X.A
  blt : ∀ x ∈ bltNames, X.mg x = none
  fns : ∀ i d, c.T[i]? = some d → X.mg d.name = some (.ref (fa i)) ∧ PySem.W.keepIn X.K (.ref (fa i)) = true ∧ Binds X.K (fd i) d.ps [] ∧ FnOk X.prog X.w X.K X.mg X.base CX0 k (fa i) (fd i) d.ps (spOf X.K (C i))
section
variable {X : Cx} {c : Ck} {k : Nat} {fa : Nat → Addr} {fd : Nat → FuncData} {C : CE}
theorem Gd.blk (G : Gd X c k fa fd C) (scope : Scope) (s : Shared) (H : Hp) (A : Addr) (cl : List (Str × Addr)) (fp : List Addr) : Gd (Blk X scope s H A cl fp) ⟨relS scope c.sc, c.N, c.T⟩ k fa fd C :=
  ⟨by rw [← G.sc]; rfl, G.N, G.nd, G.calm, rfl, G.room, G.blt, G.fns⟩
theorem Gd.u65 (G : Gd X c k fa fd C) : X.A.units + 65 < cLine := by
  have h := G.room.un
  omega
theorem Gd.u1 (G : Gd X c k fa fd C) : X.A.units + 1 < cLine := by
  have h := G.room.un
  omega
theorem vis_of (G : Gd X c k fa fd C) {x : Str} (h : visB c.sc x = true) : Vis X.env.scope x := by
  rw [G.sc]
  unfold visB at h
  unfold Vis
  split at h
  · exact .inl (by assumption)
  · exact .inr (.inl (by assumption))
  · exact .inr (.inr (by assumption))
  · cases h
theorem loc_of (G : Gd X c k fa fd C) {x : Str} (h : locB c.sc x = true) : L2.Loc X.env.scope x := by
  rw [G.sc]
  unfold locB at h
  unfold L2.Loc
  split at h
  · exact .inl (by assumption)
  · exact .inr (by assumption)
  · cases h
theorem own_of (G : Gd X c k fa fd C) {x : Str} (h : ownB c.sc x = true) : X.env.scope.names.lookup x = some .local := by
  rw [G.sc]
  unfold ownB at h
  split at h
  · assumption
  · cases h
theorem gl_of (G : Gd X c k fa fd C) {x : Str} (h : glB c.sc x = true) : Gl X x := by
  show X.env.scope.names.lookup x = some .globalImplicit
  rw [G.sc]
  unfold glB at h
  split at h
  · assumption
  · cases h
theorem okN_of {x : Str} (h : okN x = true) : (x == ("__debug__" : Str)) = false ∧ (x == ("__classdict__" : Str)) = false ∧ x ≠ "__name__" := by
  unfold okN at h
  simp only [Bool.and_eq_true, Bool.not_eq_true'] at h
  exact ⟨h.1.1, h.1.2, fun e => by rw [e] at h; simp at h⟩
theorem pe_varB (G : Gd X c k fa fd C) {i : Nat} {x : Str} {pos : Pos} (h : varB c i x = true) : PE X (.Name x pos) (tVar i) := by
  unfold varB at h
  simp only [Bool.and_eq_true, decide_eq_true_eq] at h
  obtain ⟨a, b, _⟩ := okN_of h.2
  exact pe_var (by rw [G.N]; exact h.1.1) (vis_of G h.1.2) a b
theorem boot_of {f : Bfn} {v : Value} (h : bfnV f = some v) : bootBuiltins (bfnN f) = some v ∧ bfnN f ∈ bltNames := by
  cases f <;> first | (cases h; done) | (cases h; exact ⟨by decide +kernel, by decide +kernel⟩)
/-- and, or over a row -/
def AO (X : Cx) (W : Wp) (es : List Expr) : Prop := ∀ pos, (∃ t, PW X (.BoolOp .And es pos) t ∧ EvT X.K t W.ta) ∧ (∃ t, PW X (.BoolOp .Or es pos) t ∧ EvT X.K t W.to) ∧ SE1 X W.va (.BoolOp .And es pos) ∧ SE1 X W.vo (.BoolOp .Or es pos)
theorem ao_one {W : Wp} {x : Expr} (h : SE X W x) : AO X ⟨fE, fT, fun _ _ _ => False, W.t, W.t, W.e, W.e, fI⟩ [x] := fun pos => by
  obtain ⟨⟨t1, p1, q1⟩, ⟨t2, p2, q2⟩⟩ := h
  exact ⟨⟨_, pw_and1 p2, q2⟩, ⟨_, pw_or1 p2, q2⟩, ⟨_, pe_one p1, q1⟩, ⟨_, pe_one p1, q1⟩⟩
theorem ao_cons {W V : Wp} {x y : Expr} {es : List Expr} (h : SE X W x) (hr : AO X V (y :: es)) :
    AO X ⟨fE, fT, fun _ _ _ => False, fun σ M Q => W.t σ M fun c M1 => if c = true then V.ta σ M1 Q else Q false M1, fun σ M Q => W.t σ M fun c M1 => if c = true then Q true M1 else V.to σ M1 Q,
      fun σ M Q => bW W.e σ M fun c M1 => if c = true then V.va σ M1 Q else Q (.bl false) M1, fun σ M Q => bW W.e σ M fun c M1 => if c = true then Q (.bl true) M1 else V.vo σ M1 Q, fI⟩ (x :: y :: es) := fun pos => by
  obtain ⟨⟨t1, p1, q1⟩, ⟨t2, p2, q2⟩⟩ := h
  obtain ⟨⟨ta, pa, qa⟩, ⟨tb, pb, qb⟩, ⟨tc, pc, qc⟩, ⟨td, pd, qd⟩⟩ := hr pos
  refine ⟨⟨_, pw_and p2 pa, fun σ H σu M Qu Q rs S hf c => ?_⟩, ⟨_, pw_or p2 pb, fun σ H σu M Qu Q rs S hf c => ?_⟩, ⟨_, pe_and p1 pc, fun σ H σu M Qu Q rs S hf c => ?_⟩, ⟨_, pe_or p1 pd, fun σ H σu M Qu Q rs S hf c => ?_⟩⟩
  · refine q2 σ H σu M _ _ rs S hf fun b H1 M1 st S1 hq => ?_
    cases b with
    | true => exact qa σ H1 σu M1 _ _ (rs.stp S st) S1 hq (c.tr S st)
    | false => exact c _ _ _ st S1 hq
  · refine q2 σ H σu M _ _ rs S hf fun b H1 M1 st S1 hq => ?_
    cases b with
    | true => exact c _ _ _ st S1 hq
    | false => exact qb σ H1 σu M1 _ _ (rs.stp S st) S1 hq (c.tr S st)
  · refine q1 σ H σu M _ _ rs S hf fun v H1 u M1 st S1 r hq => ?_
    obtain ⟨b, rfl, hq⟩ := hq
    cases r
    refine ⟨b, rfl, ?_⟩
    cases b with
    | true => exact qc σ H1 σu M1 _ _ (rs.stp S st) S1 hq (c.tr S st)
    | false => exact c _ _ _ _ st S1 (.bl _) hq
  · refine q1 σ H σu M _ _ rs S hf fun v H1 u M1 st S1 r hq => ?_
    obtain ⟨b, rfl, hq⟩ := hq
    cases r
    refine ⟨b, rfl, ?_⟩
    cases b with
    | true => exact c _ _ _ _ st S1 (.bl _) hq
    | false => exact qd σ H1 σu M1 _ _ (rs.stp S st) S1 hq (c.tr S st)
theorem sg_of (G : Gd X c k fa fd C) {tg : Tg} {e : Expr} (h : ckTg tg c.N (ownB c.sc) e = true) : SG X e tg := by
  unfold ckTg at h
  split at h
  · split at h
    · rw [Bool.and_eq_true] at h
      have o := own_of G h.2
      exact sg_one (by rw [G.N]; exact G.nd) (by rw [G.N]; exact of_decide_eq_true h.1) (.inl o) (.inr o)
    · cases h
  · split at h
    · exact sg_many G.calm (by rw [G.N]; exact G.nd) (ok := ownB c.sc) (fun x hx => ⟨.inl (own_of G hx), .inr (own_of G hx)⟩) (by rw [G.N]; exact h)
    · cases h
  · cases h
theorem sg_ofF (G : Gd X c k fa fd C) (hf : ∀ x, X.fn x = true) {tg : Tg} {e : Expr} (h : ckTg tg c.N (locB c.sc) e = true) : SG X e tg := by
  unfold ckTg at h
  split at h
  · split at h
    · rw [Bool.and_eq_true] at h
      exact sg_one (by rw [G.N]; exact G.nd) (by rw [G.N]; exact of_decide_eq_true h.1) (loc_of G h.2) (.inl (hf _))
    · cases h
  · split at h
    · exact sg_many G.calm (by rw [G.N]; exact G.nd) (ok := locB c.sc) (fun x hx => ⟨loc_of G hx, .inl (hf _)⟩) (by rw [G.N]; exact h)
    · cases h
  · cases h
end
def SndE (e : E) : Prop := ∀ (X : Cx) (c : Ck) (k : Nat) (fa : Nat → Addr) (fd : Nat → FuncData) (C : CE), Gd X c k fa fd C → ∀ x, ckE e c x = true → SE X (w C e) x
def SndL (e : E) : Prop := ∀ (X : Cx) (c : Ck) (k : Nat) (fa : Nat → Addr) (fd : Nat → FuncData) (C : CE), Gd X c k fa fd C → ∀ xs, ckL e c xs = true → SA X (w C e).l xs ∧ xs.all (fun e => !isStar e) = true ∧ (xs ≠ [] → AO X (w C e) xs) ∧ (xs = [] → e = .nil)
def SndI (e : E) : Prop := ∀ (X : Cx) (c : Ck) (k : Nat) (fa : Nat → Addr) (fd : Nat → FuncData) (C : CE), Gd X c k fa fd C → ∀ x tg, ckI e c x = true → (SI X tg x (w C e).i) ∨ ∃ i, e = .iKeys (.var i) ∧ PE X x (tVar i)
theorem noE {e : E} (h : ∀ c x, ckE e c x = false) : SndE e := fun X c k fa fd C G x q => by rw [h c x] at q; cases q
theorem noL {e : E} (h : ∀ c x, ckL e c x = false) : SndL e := fun X c k fa fd C G x q => by rw [h c x] at q; cases q
theorem noI {e : E} (h : ∀ c x, ckI e c x = false) : SndI e := fun X c k fa fd C G x tg q => by rw [h c x] at q; cases q
/-- a comprehension's parts -/
theorem compOk_of {X : Cx} {c : Ck} {k : Nat} {fa : Nat → Addr} {fd : Nat → FuncData} {C : CE} (G : Gd X c k fa fd C) {cnd elt : E} (sc : SndE cnd) (se : SndE elt) {tg : Tg} {own : List (Str × Nat)} {scope : Scope} {g e : Expr} {ifs : List Expr}
    (hb : blkC c.N c.sc scope own = true) (ho : own.map (·.2) = tg.slots) (ht : ckTg tg c.N (ownB (relS scope c.sc)) g = true)
    (hi : (match ifs with | [] => isNil cnd | [i] => !isNil cnd && ckE cnd ⟨relS scope c.sc, c.N, c.T⟩ i | _ => false) = true) (he : ckE elt ⟨relS scope c.sc, c.N, c.T⟩ e = true) :
    CompOk X g e ifs scope own tg (if isNil cnd = true then fun _ M Q => Q true M else (w C cnd).t) (w C elt).e := by
  refine ⟨G.calm, by rw [G.N]; exact G.nd, ?_, ho, fun s H A cl fp => sg_of (G.blk scope s H A cl fp) ht, ?_, fun s H A cl fp => (se _ _ k fa fd C (G.blk scope s H A cl fp) e he).1⟩
  · rw [G.N, G.sc]
    exact blkOk_by hb
  · split at hi
    · left
      exact ⟨rfl, by rw [if_pos hi]⟩
    · right
      rw [Bool.and_eq_true] at hi
      refine ⟨_, rfl, fun s H A cl fp => ?_⟩
      rw [if_neg (by simpa using hi.1)]
      exact (sc _ _ k fa fd C (G.blk scope s H A cl fp) _ hi.2).2
    · cases hi
theorem gBl_of {X : Cx} {c : Ck} {k : Nat} {fa : Nat → Addr} {fd : Nat → FuncData} {C : CE} (G : Gd X c k fa fd C) {n x : Str} (h : gBl c n x = true) (hn : n ∈ bltNames) : x = n ∧ Gl X x ∧ X.mg x = none ∧ (x == ("__debug__" : Str)) = false ∧ x ≠ "__name__" := by
  unfold gBl at h
  simp only [Bool.and_eq_true, decide_eq_true_eq] at h
  obtain ⟨e, h1, h2⟩ := h
  obtain ⟨a, _, b⟩ := okN_of h2
  exact ⟨e, gl_of G h1, by rw [e]; exact G.blt n hn, a, b⟩
theorem sound (e : E) : SndE e ∧ SndL e ∧ SndI e := by
  induction e with
  | var i =>
    refine ⟨fun X c k fa fd C G x h => ?_, noL fun _ _ => rfl, noI fun _ _ => rfl⟩
    unfold ckE at h
    split at h <;> first | (cases h; done) | skip
    refine .ofE rfl ⟨_, pe_varB G h, ?_⟩
    intro σ H σu M Qu Q rs S ⟨u, e, q⟩ c
    obtain ⟨v, e1, r⟩ := rs.2 i u e
    exact ⟨v, e1, c.at_ S r q⟩
  | int i =>
    refine ⟨fun X c k fa fd C G x h => ?_, noL fun _ _ => rfl, noI fun _ _ => rfl⟩
    unfold ckE at h
    split at h <;> first | (cases h; done) | skip
    obtain rfl : i = _ := of_decide_eq_true h
    exact .ofE rfl se_int
  | str i =>
    refine ⟨fun X c k fa fd C G x h => ?_, noL fun _ _ => rfl, noI fun _ _ => rfl⟩
    unfold ckE at h
    split at h <;> first | (cases h; done) | skip
    obtain rfl : i = _ := of_decide_eq_true h
    exact .ofE rfl se_str
  | bl i =>
    refine ⟨fun X c k fa fd C G x h => ?_, noL fun _ _ => rfl, noI fun _ _ => rfl⟩
    unfold ckE at h
    split at h <;> first | (cases h; done) | skip
    obtain rfl : i = _ := of_decide_eq_true h
    exact .ofE rfl se_bl
  | non =>
    refine ⟨fun X c k fa fd C G x h => ?_, noL fun _ _ => rfl, noI fun _ _ => rfl⟩
    unfold ckE at h
    split at h <;> first | (cases h; done) | skip
    exact .ofE rfl se_non
  | nil =>
    refine ⟨noE fun _ _ => rfl, fun X c k fa fd C G xs h => ?_, noI fun _ _ => rfl⟩
    cases xs with
    | nil => exact ⟨sa_nil, rfl, fun z => absurd rfl z, fun _ => rfl⟩
    | cons _ _ => cases h
  | cons a b iha ihb =>
    refine ⟨noE fun _ _ => rfl, fun X c k fa fd C G xs h => ?_, noI fun _ _ => rfl⟩
    cases xs with
    | nil => cases h
    | cons x xs =>
      have h : (!isStar x && (ckE a c x && ckL b c xs)) = true := h
      rw [Bool.and_eq_true, Bool.and_eq_true] at h
      obtain ⟨h1, h2, h3⟩ := h
      have h1 : isStar x = false := by simpa using h1
      have sa := iha.1 X c k fa fd C G x h2
      obtain ⟨sb, hs, ao, hn⟩ := ihb.2.1 X c k fa fd C G xs h3
      refine ⟨sa_cons h1 sa.1 sb, by rw [List.all_cons, h1, hs]; rfl, fun _ => ?_, fun z => by cases z⟩
      cases xs with
      | nil =>
        have e := hn rfl
        subst e
        exact ao_one sa
      | cons y ys =>
        have hb : isNil b = false := by
          cases b <;> first | rfl | (cases h3; done)
        have hn : ¬ isNil b = true := by rw [hb]; decide
        have e1 : (w C (.cons a b)).ta = fun σ M Q => (w C a).t σ M fun c M1 => if c = true then (w C b).ta σ M1 Q else Q false M1 := if_neg hn
        have e2 : (w C (.cons a b)).to = fun σ M Q => (w C a).t σ M fun c M1 => if c = true then Q true M1 else (w C b).to σ M1 Q := if_neg hn
        have e3 : (w C (.cons a b)).va = fun σ M Q => bW (w C a).e σ M fun c M1 => if c = true then (w C b).va σ M1 Q else Q (.bl false) M1 := if_neg hn
        have e4 : (w C (.cons a b)).vo = fun σ M Q => bW (w C a).e σ M fun c M1 => if c = true then Q (.bl true) M1 else (w C b).vo σ M1 Q := if_neg hn
        have q := ao_cons sa (ao (by simp))
        intro pos
        rw [e1, e2, e3, e4]
        exact q pos
  | tup es ih =>
    refine ⟨fun X c k fa fd C G x h => ?_, noL fun _ _ => rfl, noI fun _ _ => rfl⟩
    unfold ckE at h
    split at h <;> first | (cases h; done) | skip
    exact .ofE rfl (se_tup (ih.2.1 X c k fa fd C G _ h).1)
  | lst es ih =>
    refine ⟨fun X c k fa fd C G x h => ?_, noL fun _ _ => rfl, noI fun _ _ => rfl⟩
    unfold ckE at h
    split at h <;> first | (cases h; done) | skip
    exact .ofE rfl (se_lst (ih.2.1 X c k fa fd C G _ h).1)
  | dnew t =>
    refine ⟨fun X c k fa fd C G x h => ?_, noL fun _ _ => rfl, noI fun _ _ => rfl⟩
    unfold ckE at h
    split at h <;> first | (cases h; done) | skip
    exact .ofE rfl se_dnew
  | bin op a b iha ihb =>
    refine ⟨fun X c k fa fd C G x h => ?_, noL fun _ _ => rfl, noI fun _ _ => rfl⟩
    unfold ckE at h
    split at h <;> first | (cases h; done) | skip
    simp only [Bool.and_eq_true, decide_eq_true_eq] at h
    obtain ⟨rfl, h1, h2⟩ := h
    exact .ofE rfl (se_bin (iha.1 X c k fa fd C G _ h1).1 (ihb.1 X c k fa fd C G _ h2).1)
  | neg a ih =>
    refine ⟨fun X c k fa fd C G x h => ?_, noL fun _ _ => rfl, noI fun _ _ => rfl⟩
    unfold ckE at h
    split at h <;> first | (cases h; done) | skip
    exact .ofE rfl (se_neg (ih.1 X c k fa fd C G _ h).1)
  | cmp op a b iha ihb =>
    refine ⟨fun X c k fa fd C G x h => ?_, noL fun _ _ => rfl, noI fun _ _ => rfl⟩
    unfold ckE at h
    split at h <;> first | (cases h; done) | skip
    simp only [Bool.and_eq_true, decide_eq_true_eq, Bool.not_eq_true'] at h
    obtain ⟨rfl, h0, h1, h2⟩ := h
    exact se_cmp G.u65 (iha.1 X c k fa fd C G _ h1).1 (ihb.1 X c k fa fd C G _ h2).1 h0
  | chain o1 o2 a b d iha ihb ihd =>
    refine ⟨fun X c k fa fd C G x h => ?_, noL fun _ _ => rfl, noI fun _ _ => rfl⟩
    unfold ckE at h
    split at h <;> first | (cases h; done) | skip
    simp only [Bool.and_eq_true, decide_eq_true_eq, Bool.not_eq_true'] at h
    obtain ⟨rfl, rfl, h0, h1, h2, h3⟩ := h
    exact se_chain G.u65 (iha.1 X c k fa fd C G _ h1).1 (ihb.1 X c k fa fd C G _ h2).1 (ihd.1 X c k fa fd C G _ h3).1 h0
  | isN a ih =>
    refine ⟨fun X c k fa fd C G x h => ?_, noL fun _ _ => rfl, noI fun _ _ => rfl⟩
    unfold ckE at h
    split at h <;> first | (cases h; done) | skip
    exact se_isN (ih.1 X c k fa fd C G _ h).1
  | notN a ih =>
    refine ⟨fun X c k fa fd C G x h => ?_, noL fun _ _ => rfl, noI fun _ _ => rfl⟩
    unfold ckE at h
    split at h <;> first | (cases h; done) | skip
    exact se_notN (ih.1 X c k fa fd C G _ h).1
  | isB neg b a ih =>
    refine ⟨fun X c k fa fd C G x h => ?_, noL fun _ _ => rfl, noI fun _ _ => rfl⟩
    unfold ckE at h
    split at h <;> first | (cases h; done) | skip
    simp only [Bool.and_eq_true, decide_eq_true_eq] at h
    obtain ⟨rfl, rfl, h1⟩ := h
    exact se_isB (ih.1 X c k fa fd C G _ h1).1
  | ands es ih =>
    refine ⟨fun X c k fa fd C G x h => ?_, noL fun _ _ => rfl, noI fun _ _ => rfl⟩
    unfold ckE at h
    split at h <;> first | (cases h; done) | skip
    simp only [Bool.and_eq_true, Bool.not_eq_true'] at h
    obtain ⟨h0, h1⟩ := h
    obtain ⟨⟨t, p, q⟩, _, v, _⟩ := (ih.2.1 X c k fa fd C G _ h1).2.2.1 (by intro z; rw [z] at h0; cases h0) _
    exact ⟨v, ⟨_, p.pt, q⟩⟩
  | ors es ih =>
    refine ⟨fun X c k fa fd C G x h => ?_, noL fun _ _ => rfl, noI fun _ _ => rfl⟩
    unfold ckE at h
    split at h <;> first | (cases h; done) | skip
    simp only [Bool.and_eq_true, Bool.not_eq_true'] at h
    obtain ⟨h0, h1⟩ := h
    obtain ⟨_, ⟨t, p, q⟩, _, v⟩ := (ih.2.1 X c k fa fd C G _ h1).2.2.1 (by intro z; rw [z] at h0; cases h0) _
    exact ⟨v, ⟨_, p.pt, q⟩⟩
  | not a ih =>
    refine ⟨fun X c k fa fd C G x h => ?_, noL fun _ _ => rfl, noI fun _ _ => rfl⟩
    unfold ckE at h
    split at h <;> first | (cases h; done) | skip
    exact se_not (ih.1 X c k fa fd C G _ h)
  | ite d a b ihd iha ihb =>
    refine ⟨fun X c k fa fd C G x h => ?_, noL fun _ _ => rfl, noI fun _ _ => rfl⟩
    unfold ckE at h
    split at h <;> first | (cases h; done) | skip
    simp only [Bool.and_eq_true] at h
    obtain ⟨h1, h2, h3⟩ := h
    exact ⟨se_ite (ihd.1 X c k fa fd C G _ h1).2 (iha.1 X c k fa fd C G _ h2).1 (ihb.1 X c k fa fd C G _ h3).1, ⟨fun _ _ _ => False, ⟨fun _ _ _ _ _ _ z => z.elim⟩, fun _ _ _ _ _ _ _ _ z _ => z⟩⟩
  | ix a i iha ihi =>
    refine ⟨fun X c k fa fd C G x h => ?_, noL fun _ _ => rfl, noI fun _ _ => rfl⟩
    unfold ckE at h
    split at h <;> first | (cases h; done) | skip
    simp only [Bool.and_eq_true] at h
    obtain ⟨h0, h1, h2⟩ := h
    exact .ofE rfl (se_ix G.u1 h0 (iha.1 X c k fa fd C G _ h1).1 (ihi.1 X c k fa fd C G _ h2).1)
  | slice a lo hi iha ihl ihh =>
    refine ⟨fun X c k fa fd C G x h => ?_, noL fun _ _ => rfl, noI fun _ _ => rfl⟩
    unfold ckE at h
    split at h <;> first | (cases h; done) | skip
    rw [Bool.and_eq_true, Bool.and_eq_true] at h
    obtain ⟨h1, h2, h3⟩ := h
    have part : ∀ {e : E} {l : Option Expr}, SndE e → (match l with | none => isNil e | some y => !isNil e && ckE e c y) = true → SO X (partW e (w C e).e) l := fun {e l} s h => by
      cases l with
      | none =>
        have h : isNil e = true := h
        have e2 : partW e (w C e).e = fun _ M Q => Q none M := by
          unfold partW
          funext σ M Q
          rw [if_pos h]
        rw [e2]
        exact so_none
      | some y =>
        have h : (!isNil e && ckE e c y) = true := h
        rw [Bool.and_eq_true] at h
        have e2 : partW e (w C e).e = fun σ M Q => (w C e).e σ M fun x M1 => ∃ i, x = .int i ∧ Q (some i) M1 := by
          unfold partW
          funext σ M Q
          rw [if_neg (by simpa using h.1)]
        rw [e2]
        exact so_some (s X c k fa fd C G _ h.2).1
    exact .ofE rfl (se_slice (iha.1 X c k fa fd C G _ h1).1 (part ihl.1 h2) (part ihh.1 h3))
  | call f es ih =>
    refine ⟨fun X c k fa fd C G x h => ?_, noL fun _ _ => rfl, noI fun _ _ => rfl⟩
    unfold ckE at h
    split at h <;> first | (cases h; done) | skip
    rename_i e x p xs pos
    rw [Bool.and_eq_true] at h
    obtain ⟨h1, h2⟩ := h
    unfold gFn at h1
    rw [Bool.and_eq_true, Bool.and_eq_true] at h1
    obtain ⟨h3, h4, h5⟩ := h1
    obtain ⟨o1, _, _⟩ := okN_of h5
    cases hd : c.T[f]? with
    | none => rw [hd] at h3; cases h3
    | some d =>
      rw [hd] at h3
      simp only [Bool.and_eq_true, decide_eq_true_eq] at h3
      obtain ⟨rfl, h3⟩ := h3
      obtain ⟨g1, g2, g3, g4⟩ := G.fns f d hd
      obtain ⟨sa, ns, _, hn⟩ := ih.2.1 X c k fa fd C G _ h2
      cases xs with
      | nil =>
        have e := hn rfl
        subst e
        exact .ofE rfl (se_call0 g4 G.room (gl_of G h4) g1 g2 g3 o1)
      | cons y ys => exact .ofE rfl (se_call g4 G.room (gl_of G h4) g1 g2 g3 o1 ns sa)
  | blt f es ih =>
    refine ⟨fun X c k fa fd C G x h => ?_, noL fun _ _ => rfl, noI fun _ _ => rfl⟩
    unfold ckE at h
    split at h <;> first | (cases h; done) | skip
    rename_i e x p xs pos
    rw [Bool.and_eq_true, Bool.and_eq_true, Bool.and_eq_true] at h
    obtain ⟨h1, h2, h3, h4⟩ := h
    obtain ⟨v, hv⟩ := Option.isSome_iff_exists.mp h2
    obtain ⟨b1, b2⟩ := boot_of hv
    obtain ⟨e1, e2, e3, e4, e5⟩ := gBl_of G h1 b2
    obtain ⟨sa, ns, _, hn⟩ := ih.2.1 X c k fa fd C G _ h4
    cases xs with
    | nil => cases h3
    | cons y ys => exact .ofE rfl (se_blt G.calm hv e2 e3 (by rw [e1]; exact b1) e5 e4 ns sa)
  | mth m o es iho ih =>
    refine ⟨fun X c k fa fd C G x h => ?_, noL fun _ _ => rfl, noI fun _ _ => rfl⟩
    unfold ckE at h
    split at h <;> first | (cases h; done) | skip
    rename_i e y a apos xs pos
    rw [Bool.and_eq_true, Bool.and_eq_true, Bool.and_eq_true, Bool.and_eq_true, Bool.and_eq_true] at h
    obtain ⟨h1, h2, h3, h4, h5, h6⟩ := h
    cases hm : mfnT m with
    | none => rw [hm] at h1; cases h1
    | some t =>
      rw [hm] at h1
      obtain ⟨T, n, id⟩ := t
      obtain rfl : a = n := of_decide_eq_true h1
      obtain ⟨sa, ns, _, hn⟩ := ih.2.1 X c k fa fd C G _ h6
      exact .ofE rfl (se_mth hm ns (of_decide_eq_true h4) h2 h3 (iho.1 X c k fa fd C G _ h5).1 sa fun z => by rw [hn z]; rfl)
  | isinst a t ih =>
    refine ⟨fun X c k fa fd C G x h => ?_, noL fun _ _ => rfl, noI fun _ _ => rfl⟩
    unfold ckE at h
    split at h <;> first | (cases h; done) | skip
    rw [Bool.and_eq_true, Bool.and_eq_true, Bool.and_eq_true, Bool.and_eq_true] at h
    obtain ⟨h1, h2, h3, h4, h5⟩ := h
    obtain ⟨e1, e2, e3, e4, e5⟩ := gBl_of G h1 (by decide +kernel)
    have ht2 : Str.ofString t ∈ bltNames := by
      have h3 := h3
      unfold tyOk at h3
      simp only [Bool.or_eq_true, beq_iff_eq] at h3
      rcases h3 with (((h | h) | h) | h) | h <;> subst h <;> decide +kernel
    obtain ⟨f1, f2, f3, f4, f5⟩ := gBl_of G h2 ht2
    exact se_isinst h3 e1 f1 e2 e3 f2 f3 (by simpa using h4) (ih.1 X c k fa fd C G _ h5).1
  | comp own tg it cnd elt ih1 ih2 ih3 =>
    refine ⟨fun X c k fa fd C G x h => ?_, noL fun _ _ => rfl, noI fun _ _ => rfl⟩
    unfold ckE at h
    split at h <;> first | (cases h; done) | skip
    rename_i e x g itx ifs is_ scope pos
    rw [Bool.and_eq_true, Bool.and_eq_true, Bool.and_eq_true, Bool.and_eq_true, Bool.and_eq_true, Bool.and_eq_true, Bool.and_eq_true] at h
    obtain ⟨h1, h2, h3, h4, h5, h6, h7, h8⟩ := h
    obtain rfl : is_ = 0 := of_decide_eq_true h1
    have co := compOk_of G ih2.1 ih3.1 h4 (of_decide_eq_true h5) h6 h7 h8
    rcases ih1.2.2 X c k fa fd C G itx g h2 with hi | ⟨i, rfl, hi⟩
    · exact .ofE rfl (se_comp hi co h3)
    · exact .ofE rfl (se_compK hi co h3)
  | iSeq a ih =>
    refine ⟨noE fun _ _ => rfl, noL fun _ _ => rfl, fun X c k fa fd C G x tg h => .inl ?_⟩
    exact si_seq (ih.1 X c k fa fd C G _ h).1
  | iRange a ih =>
    refine ⟨noE fun _ _ => rfl, noL fun _ _ => rfl, fun X c k fa fd C G x tg h => .inl ?_⟩
    unfold ckI at h
    split at h <;> first | (cases h; done) | skip
    rw [Bool.and_eq_true, Bool.and_eq_true] at h
    obtain ⟨h1, h2, h3⟩ := h
    obtain ⟨e1, e2, e3, e4, e5⟩ := gBl_of G h1 (by decide +kernel)
    exact si_rng e1 e2 e3 (by simpa using h2) (ih.1 X c k fa fd C G _ h3).1
  | iRange2 a b iha ihb =>
    refine ⟨noE fun _ _ => rfl, noL fun _ _ => rfl, fun X c k fa fd C G x tg h => .inl ?_⟩
    unfold ckI at h
    split at h <;> first | (cases h; done) | skip
    rw [Bool.and_eq_true, Bool.and_eq_true, Bool.and_eq_true, Bool.and_eq_true] at h
    obtain ⟨h1, h2, h3, h4, h5⟩ := h
    obtain ⟨e1, e2, e3, e4, e5⟩ := gBl_of G h1 (by decide +kernel)
    exact si_rng2 e1 e2 e3 (by simpa using h2) (by simpa using h3) (iha.1 X c k fa fd C G _ h4).1 (ihb.1 X c k fa fd C G _ h5).1
  | iEnum a ih => exact ⟨noE fun _ _ => rfl, noL fun _ _ => rfl, noI fun _ _ => rfl⟩
  | iKeys a ih =>
    refine ⟨noE fun _ _ => rfl, noL fun _ _ => rfl, fun X c k fa fd C G x tg h => .inr ?_⟩
    unfold ckI at h
    split at h <;> first | (cases h; done) | skip
    split at h <;> first | (cases h; done) | skip
    exact ⟨_, rfl, pe_varB G h⟩
end Pl

set_option maxHeartbeats 4000000
/-! statements and defs: the check and its worth -/
namespace Pl
open PySem L2
/-- a comprehension stored by its own rule -/
def swapB (x : Str) (p' : Pos) (v : Expr) : Bool := match v with
  | .ListComp _ _ scope vp => (p'.line == vp.line) && !(scope.names.any fun (n, k) => n == x && (k == .local || k == .cell))
  | _ => false
mutual
def ckS : S → Ck → Stmt → Bool
  | .skip, _, st => (match st with | .Pass _ => true | _ => false)
  | .seq _ _, _, _ => false
  | .asg i e, c, st => (match st with
    | .Assign [.Name x p'] v _ => decide (c.N[i]? = some x) && (locB c.sc x && (ckE e c v && (if isComp v = true then swapB x p' v else true)))
    | _ => false)
  | .asgT is e, c, st => (match st with | .Assign [.Tuple es _ _] v _ => namesB c.N (locB c.sc) is es && (notTup v && ckE e c v) | _ => false)
  | .par _ _ _ _, _, _ => false
  | .setIx o i e, c, st => (match st with | .Assign [.Subscript x y _] v _ => notSlice y && (ckE e c v && (ckE o c x && ckE i c y)) | _ => false)
  | .augV i op e, c, st => (match st with | .AugAssign (.Name x _) o v _ => decide (iopOf op = some o) && (decide (c.N[i]? = some x) && (locB c.sc x && ckE e c v)) | _ => false)
  | .augIx o i op e, c, st => (match st with | .AugAssign (.Subscript x y _) oo v _ => decide (iopOf op = some oo) && (notSlice y && (ckE o c x && (ckE i c y && ckE e c v))) | _ => false)
  | .ifs d a b, c, st => (match st with | .If x p q _ => ckE d c x && (ckB a c p && ckB b c q) | _ => false)
  | .for_ tg it b, c, st => (match st with | .For g x body [] _ => ckTg tg c.N (locB c.sc) g && (ckI it c x && (notSet x && ckB b c body)) | _ => false)
  | .whl d b, c, st => (match st with | .While x body [] _ => ckE d c x && ckB b c body | _ => false)
  | .ret e, c, st => (match st with | .Return (some x) _ => ckE e c x | _ => false)
  | .retN, _, st => (match st with | .Return none _ => true | _ => false)
  | .brk, _, st => (match st with | .Break _ => true | _ => false)
  | .cnt, _, st => (match st with | .Continue _ => true | _ => false)
  | .expr e, c, st => (match st with | .Expr x _ => !isComp x && ckE e c x | _ => false)
  | .nvr, _, _ => true
def ckB : S → Ck → List Stmt → Bool
  | .skip, _, sts => sts.isEmpty
  | .seq a b, c, sts => (match sts with | st :: r => ckS a c st && ckB b c r | [] => false)
  | .nvr, _, _ => true
  | _, _, _ => false
end
section
variable {X : Cx} {c : Ck} {k : Nat} {fa : Nat → Addr} {fd : Nat → FuncData} {C : CE}
theorem swap_of (G : Gd X c k fa fd C) {x : Str} {p' vp : Pos} {elt : Expr} {gs : List Comprehension} {scope : Scope} {l : Nat} (hk : X.env.scope.kind = .function) (hs : swapB x p' (.ListComp elt gs scope vp) = true) :
    (ownB c.sc x = true → swapsWith (.ListComp elt gs scope vp) (some (.Name x p')) l X.env = pure true) ∧ (ownB c.sc x = false → swapsWith (.ListComp elt gs scope vp) (some (.Name x p')) l X.env = pure false) := by
  unfold swapB at hs
  rw [Bool.and_eq_true] at hs
  have h2 : (scope.names.any fun (n, k) => n == x && (k == .local || k == .cell)) = false := by simpa using hs.2
  refine ⟨fun h => sw_true hk (own_of G h) hs.1 h2, fun h => ?_⟩
  have hb : X.env.blockKind = .function := by unfold Env.blockKind; rw [hk]; rfl
  have hn : (X.env.kindOf x == some .local) = false := by
    have e : X.env.kindOf x = c.sc.names.lookup x := by
      show X.env.scope.names.lookup x = _
      rw [G.sc]
    rw [e]
    unfold ownB at h
    split at h
    · cases h
    · rename_i hz
      cases q : c.sc.names.lookup x with
      | none => rfl
      | some kd => cases kd <;> first | rfl | exact absurd q hz
  unfold swapsWith
  simp only [hn, Bool.and_false, Bool.false_and]
theorem comp_parts (G : Gd X c k fa fd C) {e : E} {x : Expr} {gens : List Comprehension} {scope : Scope} {pos : Pos} (h : ckE e c (.ListComp x gens scope pos) = true) :
    ∃ own tg it fc fe g itx ifs, gens = [⟨g, itx, ifs, 0⟩] ∧ (w C e).e = compW (w C it).i tg fc fe ∧ CompOk X g x ifs scope own tg fc fe ∧ notSet itx = true ∧ (SI X g itx (w C it).i ∨ ∃ i, it = .iKeys (.var i) ∧ PE X itx (tVar i)) := by
  cases e <;> first | (unfold ckE at h; cases h; done) | (unfold ckE at h; simp at h; done) | skip
  rename_i own tg it cnd elt
  unfold ckE at h
  split at h <;> first | (cases h; done) | skip
  rename_i e2 x2 g itx ifs is_ scope2 pos2 heq
  cases heq
  rw [Bool.and_eq_true, Bool.and_eq_true, Bool.and_eq_true, Bool.and_eq_true, Bool.and_eq_true, Bool.and_eq_true, Bool.and_eq_true] at h
  obtain ⟨h1, h2, h3, h4, h5, h6, h7, h8⟩ := h
  obtain rfl : is_ = 0 := of_decide_eq_true h1
  have co := compOk_of G (sound cnd).1 (sound elt).1 h4 (of_decide_eq_true h5) h6 h7 h8
  exact ⟨own, tg, it, _, _, g, itx, ifs, rfl, rfl, co, h3, (sound it).2.2 X c k fa fd C G itx g h2⟩
end
def SndS (a : S) : Prop := ∀ (X : Cx) (c : Ck) (k : Nat) (fa : Nat → Addr) (fd : Nat → FuncData) (C : CE), Gd X c k fa fd C → (∀ x, X.fn x = true) → X.env.scope.kind = .function → ∀ st, ckS a c st = true → SS X (wS C a) st
def SndB (a : S) : Prop := ∀ (X : Cx) (c : Ck) (k : Nat) (fa : Nat → Addr) (fd : Nat → FuncData) (C : CE), Gd X c k fa fd C → (∀ x, X.fn x = true) → X.env.scope.kind = .function → ∀ sts, ckB a c sts = true → SSs X (wS C a) sts
theorem noB {a : S} (h : ∀ c x, ckB a c x = false) : SndB a := fun X c k fa fd C G hf hk x q => by rw [h c x] at q; cases q
theorem noS {a : S} (h : ∀ c x, ckS a c x = false) : SndS a := fun X c k fa fd C G hf hk x q => by rw [h c x] at q; cases q
theorem soundS (a : S) : SndS a ∧ SndB a := by
  induction a with
  | skip =>
    refine ⟨fun X c k fa fd C G hf hk st h => ?_, fun X c k fa fd C G hf hk sts h => ?_⟩
    · unfold ckS at h
      split at h <;> first | (cases h; done) | skip
      exact ss_pass
    · cases sts with
      | nil => exact sss_nil
      | cons _ _ => cases h
  | seq a b iha ihb =>
    refine ⟨noS fun _ _ => rfl, fun X c k fa fd C G hf hk sts h => ?_⟩
    cases sts with
    | nil => cases h
    | cons st r =>
      have h : (ckS a c st && ckB b c r) = true := h
      rw [Bool.and_eq_true] at h
      exact sss_cons (f := wS C a) (g := wS C b) (iha.1 X c k fa fd C G hf hk st h.1) (ihb.2 X c k fa fd C G hf hk r h.2)
  | asg i e =>
    refine ⟨fun X c k fa fd C G hf hk st h => ?_, noB fun _ _ => rfl⟩
    unfold ckS at h
    split at h <;> first | (cases h; done) | skip
    rename_i st x p' v pos
    rw [Bool.and_eq_true, Bool.and_eq_true, Bool.and_eq_true] at h
    obtain ⟨h1, h2, h3, h4⟩ := h
    have hN : X.N.Nodup := by rw [G.N]; exact G.nd
    have hi : X.N[i]? = some x := by rw [G.N]; exact of_decide_eq_true h1
    cases hc : isComp v with
    | false => exact ss_asg hN hi (loc_of G h2) (no_swap hc) (hf x) ((sound e).1 X c k fa fd C G v h3).1
    | true =>
      rw [if_pos hc] at h4
      cases v <;> first | (cases h4; done) | skip
      rename_i elt gens scope vp
      obtain ⟨s1, s2⟩ := swap_of (l := pos.line) G hk h4
      cases ho : ownB c.sc x with
      | false => exact ss_asg hN hi (loc_of G h2) (s2 ho) (hf x) ((sound e).1 X c k fa fd C G _ h3).1
      | true =>
        obtain ⟨own, tg, it, fc, fe, g, itx, ifs, rfl, ew, co, hs, hit⟩ := comp_parts G h3
        show SS X (fun D σ M => (w C e).e σ M fun x M1 => D.nx (σ.set i (some x)) M1) _
        rw [ew]
        rcases hit with hit | ⟨j, rfl, hit⟩
        · exact ss_asgC hi (own_of G ho) (s1 ho) hit co hs
        · exact ss_asgCK hi (own_of G ho) (s1 ho) hit co hs
  | asgT is e =>
    refine ⟨fun X c k fa fd C G hf hk st h => ?_, noB fun _ _ => rfl⟩
    unfold ckS at h
    split at h <;> first | (cases h; done) | skip
    rw [Bool.and_eq_true, Bool.and_eq_true] at h
    obtain ⟨h1, h2, h3⟩ := h
    exact ss_asgT G.calm (by rw [G.N]; exact G.nd) (ok := locB c.sc) (fun x hx => ⟨loc_of G hx, .inl (hf x)⟩) (by rw [G.N]; exact h1) h2 ((sound e).1 X c k fa fd C G _ h3).1
  | par i j a b => exact ⟨noS fun _ _ => rfl, noB fun _ _ => rfl⟩
  | setIx o i e =>
    refine ⟨fun X c k fa fd C G hf hk st h => ?_, noB fun _ _ => rfl⟩
    unfold ckS at h
    split at h <;> first | (cases h; done) | skip
    rw [Bool.and_eq_true, Bool.and_eq_true, Bool.and_eq_true] at h
    obtain ⟨h0, h1, h2, h3⟩ := h
    exact ss_setIx G.u1 ((sound e).1 X c k fa fd C G _ h1).1 ((sound o).1 X c k fa fd C G _ h2).1 ((sound i).1 X c k fa fd C G _ h3).1 h0
  | augV i op e =>
    refine ⟨fun X c k fa fd C G hf hk st h => ?_, noB fun _ _ => rfl⟩
    unfold ckS at h
    split at h <;> first | (cases h; done) | skip
    rw [Bool.and_eq_true, Bool.and_eq_true, Bool.and_eq_true] at h
    obtain ⟨h0, h1, h2, h3⟩ := h
    exact ss_augV (of_decide_eq_true h0) (by rw [G.N]; exact G.nd) (by rw [G.N]; exact of_decide_eq_true h1) (loc_of G h2) (hf _) ((sound e).1 X c k fa fd C G _ h3).1
  | augIx o i op e =>
    refine ⟨fun X c k fa fd C G hf hk st h => ?_, noB fun _ _ => rfl⟩
    unfold ckS at h
    split at h <;> first | (cases h; done) | skip
    rw [Bool.and_eq_true, Bool.and_eq_true, Bool.and_eq_true, Bool.and_eq_true] at h
    obtain ⟨h0, hs, h1, h2, h3⟩ := h
    exact ss_augIx (of_decide_eq_true h0) G.u1 ((sound o).1 X c k fa fd C G _ h1).1 ((sound i).1 X c k fa fd C G _ h2).1 ((sound e).1 X c k fa fd C G _ h3).1 hs
  | ifs d a b iha ihb =>
    refine ⟨fun X c k fa fd C G hf hk st h => ?_, noB fun _ _ => rfl⟩
    unfold ckS at h
    split at h <;> first | (cases h; done) | skip
    rw [Bool.and_eq_true, Bool.and_eq_true] at h
    obtain ⟨h1, h2, h3⟩ := h
    exact ss_if ((sound d).1 X c k fa fd C G _ h1).2 (iha.2 X c k fa fd C G hf hk _ h2) (ihb.2 X c k fa fd C G hf hk _ h3)
  | for_ tg it b ih =>
    refine ⟨fun X c k fa fd C G hf hk st h => ?_, noB fun _ _ => rfl⟩
    unfold ckS at h
    split at h <;> first | (cases h; done) | skip
    rename_i st g x body pos
    rw [Bool.and_eq_true, Bool.and_eq_true, Bool.and_eq_true] at h
    obtain ⟨h1, h2, h3, h4⟩ := h
    have hb := ih.2 X c k fa fd C G hf hk _ h4
    rcases (sound it).2.2 X c k fa fd C G x g h2 with hi | ⟨i, rfl, hi⟩
    · exact ss_for G.xe G.calm hi (sg_ofF G hf h1) hb h3
    · exact ss_forK G.xe G.calm hi (sg_ofF G hf h1) hb h3
  | whl d b ih =>
    refine ⟨fun X c k fa fd C G hf hk st h => ?_, noB fun _ _ => rfl⟩
    unfold ckS at h
    split at h <;> first | (cases h; done) | skip
    rw [Bool.and_eq_true] at h
    exact ss_whl G.xe ((sound d).1 X c k fa fd C G _ h.1).2 (ih.2 X c k fa fd C G hf hk _ h.2)
  | ret e =>
    refine ⟨fun X c k fa fd C G hf hk st h => ?_, noB fun _ _ => rfl⟩
    unfold ckS at h
    split at h <;> first | (cases h; done) | skip
    exact ss_ret ((sound e).1 X c k fa fd C G _ h).1
  | retN =>
    refine ⟨fun X c k fa fd C G hf hk st h => ?_, noB fun _ _ => rfl⟩
    unfold ckS at h
    split at h <;> first | (cases h; done) | skip
    exact ss_retN
  | brk =>
    refine ⟨fun X c k fa fd C G hf hk st h => ?_, noB fun _ _ => rfl⟩
    unfold ckS at h
    split at h <;> first | (cases h; done) | skip
    exact ss_break
  | cnt =>
    refine ⟨fun X c k fa fd C G hf hk st h => ?_, noB fun _ _ => rfl⟩
    unfold ckS at h
    split at h <;> first | (cases h; done) | skip
    exact ss_cont
  | expr e =>
    refine ⟨fun X c k fa fd C G hf hk st h => ?_, noB fun _ _ => rfl⟩
    unfold ckS at h
    split at h <;> first | (cases h; done) | skip
    rw [Bool.and_eq_true] at h
    exact ss_expr (by simpa using h.1) ((sound e).1 X c k fa fd C G _ h.2).1
  | nvr => exact ⟨fun X c k fa fd C G hf hk st h => ss_nvr, fun X c k fa fd C G hf hk sts h => sss_nvr⟩
end Pl

set_option maxHeartbeats 400000
/-! the defs of a text keep their promises -/
namespace Pl
open PySem L2
def scopeB (N ps : List Str) (sc : Scope) : Bool :=
  decide (sc.kind = .function) && (!sc.isCoroutine && (!sc.isGenerator && (decide N.Nodup && (decide (N.take ps.length = ps) && ((ps.all fun x => locB sc x) && sc.names.all fun y => decide (y.2 ≠ .free))))))
theorem scope_of {N ps : List Str} {sc : Scope} (h : scopeB N ps sc = true) : FnScope N ps sc := by
  unfold scopeB at h
  simp only [Bool.and_eq_true, decide_eq_true_eq, Bool.not_eq_true', List.all_eq_true] at h
  obtain ⟨h1, h2, h3, h4, h5, h6, h7⟩ := h
  refine ⟨h1, h2, h3, h4, h5, fun x hx => ?_, fun y hy => h7 y hy⟩
  have q := h6 x hx
  unfold locB at q
  split at q
  · exact .inl (by assumption)
  · exact .inr (by assumption)
  · cases q
/-- one def against its text -/
def ckF (T : List Df) (d : Df) (st : Stmt) : Bool := scopeB d.N d.ps (defScope st) && ckB d.b ⟨defScope st, d.N, T⟩ (defBody st)
/-- its arguments bind -/
def BindP (x : Str) (st : Stmt) (ps : List Str) : Prop := ∀ (kV doc pm : Value) (an : Option Addr) (cdv ct : Value) (us : List Value), us.length = ps.length → bindArgs (PySem.W.fnOf x x (defArgs st) (defBody st) (defScope st) .none kV doc pm an cdv ct) ⟨us, []⟩ = pure (ps.zip us)
theorem Cs_len {T : List Df} {k i : Nat} {d : Df} {us : List U} {M : Hm} {Q : QU} (hd : T[i]? = some d) (h : Cs T k i us M Q) : us.length = d.ps.length := by
  cases k with
  | zero => exact h.elim
  | succ k =>
    obtain ⟨d', hd', hl, _⟩ := h
    rw [hd] at hd'
    cases hd'
    exact hl
theorem relS_start {K : Fg} {H : Hp} {N : List Str} {vs : List V} {us : List U} (r : RelL K H vs us) : RelS K H (L2.start N vs) (startU N.length us) := by
  refine ⟨by unfold L2.start startU; simp [r.length], fun i u e => ?_⟩
  unfold startU at e
  by_cases hi : i < us.length
  · rw [List.getElem?_append_left (by simpa using hi), List.getElem?_map] at e
    cases q : us[i]? with
    | none => rw [q] at e; cases e
    | some u' =>
      rw [q] at e
      cases e
      obtain ⟨v, hv, rv⟩ := r.get q
      refine ⟨v, ?_, rv⟩
      unfold L2.start
      rw [List.getElem?_append_left (by simpa [r.length] using hi), List.getElem?_map, hv]
      rfl
  · rw [List.getElem?_append_right (by simpa using hi)] at e
    rw [List.getElem?_replicate] at e
    split at e <;> cases e
section
variable {P : Program} {wd : World} {K : Fg} {mg : Str → Option Value} {base : Heap}
theorem fn_ok {T : List Df} {fa : Nat → Addr} {fd : Nat → FuncData}
    (hF : ∀ i d, T[i]? = some d → ∃ st, FunD K d.name d.name (defArgs st) (defBody st) (defScope st) [] [] (fa i) (fd i) ∧ ckF T d st = true ∧ BindP d.name st d.ps)
    (hmg : ∀ i d, T[i]? = some d → mg d.name = some (.ref (fa i))) (hblt : ∀ x ∈ bltNames, mg x = none) :
    ∀ (k i : Nat) (d : Df), T[i]? = some d → FnOk P wd K mg base CX0 k (fa i) (fd i) d.ps (spOf K (Cs T k i)) := by
  intro k
  induction k with
  | zero =>
    intro i d hd
    refine ⟨fun vs H Q E ⟨us, M, Qu, S, r, h, c⟩ => h.elim, fun A outer s H args us vs Q E _ _ _ _ ⟨_, _, _, _, _, h, _⟩ => h.elim⟩
  | succ k ih =>
    intro i d hd
    obtain ⟨st, F, ck, _⟩ := hF i d hd
    unfold ckF at ck
    rw [Bool.and_eq_true] at ck
    refine F.ok (scope_of ck.1) (fun vs H Q E ⟨us, M, Qu, S, r, h, c⟩ => by rw [r.length]; exact Cs_len hd h) (fun cdv A outer s H vs Q E hr ⟨us, M, Qu, S, r, h, c⟩ => ?_)
    have G : Gd (cxOf CX0 P wd K mg base d.N d.name (defScope st) (fa i) cdv A outer s H E).nox ⟨defScope st, d.N, T⟩ k fa fd (Cs T k) := by
      refine ⟨rfl, rfl, (scope_of ck.1).nd, rfl, rfl, hr, hblt, fun j dj hj => ?_⟩
      obtain ⟨stj, Fj, _, bj⟩ := hF j dj hj
      exact ⟨hmg j dj hj, Fj.kp, Fj.bindsN bj, ih j dj hj⟩
    obtain ⟨t, p, q⟩ := (soundS d.b).2 _ _ k fa fd (Cs T k) G (fun _ => rfl) (scope_of ck.1).kind _ ck.2
    refine ⟨t, p.nox, ?_⟩
    obtain ⟨d', hd', hl, hw⟩ := h
    rw [hd] at hd'
    cases hd'
    refine q _ _ _ H _ M (relS_start r) S hw ⟨fun σ' H' σu' M' st' rs' S' ⟨M2, sb, hq⟩ => ?_, fun v H' u M' st' S' rv ⟨M2, sb, hq⟩ => ?_, fun _ _ _ _ _ _ _ z => z.elim, fun _ _ _ _ _ _ _ z => z.elim⟩
    · exact c _ _ .non M2 (st'.trans S (Stp.sub sb)) (S'.sub sb) .non hq
    · exact c _ _ u M2 (st'.trans S (Stp.sub sb)) (S'.sub sb) rv hq
end

/-! ### the head's facts for such a text -/
def nameOf : Stmt → Str
  | .FunctionDef n .. => n
  | _ => ""
def mkD (st : Stmt) : He.DefD := ⟨(nameOf st, none), nameOf st, nameOf st, defArgs st, defBody st, defScope st, [], []⟩
/-- the table against the text, def by def -/
def ckT (T : List Df) (sts : List Stmt) : Bool := decide (T.length = sts.length) && (List.zip T sts).all fun (p : Df × Stmt) => decide (nameOf p.2 = p.1.name) && ckF T p.1 p.2
theorem ckT_at {T : List Df} {sts : List Stmt} (h : ckT T sts = true) {i : Nat} {d : Df} (hd : T[i]? = some d) : ∃ st, sts[i]? = some st ∧ nameOf st = d.name ∧ ckF T d st = true := by
  unfold ckT at h
  rw [Bool.and_eq_true, decide_eq_true_eq] at h
  obtain ⟨h1, h2⟩ := h
  have hi := (List.getElem?_eq_some_iff.mp hd).1
  have hs : sts[i]? = some (sts[i]'(by omega)) := List.getElem?_eq_getElem (by omega)
  have hz : (List.zip T sts)[i]? = some (d, sts[i]'(by omega)) := by
    rw [List.getElem?_zip_eq_some]
    exact ⟨hd, hs⟩
  have q := List.all_eq_true.mp h2 _ (List.mem_of_getElem? hz)
  rw [Bool.and_eq_true, decide_eq_true_eq] at q
  exact ⟨_, hs, q.1, q.2⟩
/-- all that the head must tell -/
def facts (T : List Df) : List He.Fa := T.map (fun d => .glo d.name) ++ bltNames.map He.Fa.free
theorem vref_inj {a b : Addr} (h : (some (Value.ref a) : Option Value) = some (Value.ref b)) : a = b := by
  injection h with h
  injection h
theorem opt_inj {α : Type} {a b : α} (h : some a = some b) : a = b := by injection h
/-- where the def of a name lies -/
noncomputable def faOf (T : List Df) (K : Fg) (i : Nat) : Addr := (T[i]?).elim 0 fun d => He.fAd K (d.name, none)
theorem faOf_at {T : List Df} {K : Fg} {i : Nat} {d : Df} (h : T[i]? = some d) : faOf T K i = He.fAd K (d.name, none) := by
  unfold faOf
  rw [h]
  rfl
theorem hglo_of {K : Fg} {h : Heap} {mg : Str → Option Value} {T : List Df} {sts : List Stmt} (X : K.In h) (G : h.Ns mainGlobals mg) (c : He.SaysD (facts T) (sts.map mkD) K) {i : Nat} {d : Df} (hd : T[i]? = some d) : mg d.name = some (.ref (faOf T K i)) := by
  have hi := (List.getElem?_eq_some_iff.mp hd).1
  have e : (facts T)[i]? = some (.glo d.name) := by
    unfold facts
    rw [List.getElem?_append_left (by rw [List.length_map]; exact hi), List.getElem?_map, hd]
    rfl
  have q := c.fact i e
  rw [faOf_at hd]
  exact He.glo_ok X G q
theorem hfree_of {K : Fg} {h : Heap} {mg : Str → Option Value} {T : List Df} {sts : List Stmt} (X : K.In h) (G : h.Ns mainGlobals mg) (c : He.SaysD (facts T) (sts.map mkD) K) : ∀ x ∈ bltNames, mg x = none := fun x hx => by
  obtain ⟨j, hj⟩ := List.getElem?_of_mem hx
  have e : (facts T)[T.length + j]? = some (.free x) := by
    unfold facts
    rw [List.getElem?_append_right (by rw [List.length_map]; omega), List.length_map, Nat.add_sub_cancel_left, List.getElem?_map, hj]
    rfl
  exact He.free_ok X G (c.fact _ e)
theorem hdef_of {K : Fg} {T : List Df} {sts : List Stmt} (ck : ckT T sts = true) (c : He.SaysD (facts T) (sts.map mkD) K) : ∃ fd : Nat → FuncData, ∀ (i : Nat) (d : Df), T[i]? = some d → ∃ st, sts[i]? = some st ∧ FunD K d.name d.name (defArgs st) (defBody st) (defScope st) [] [] (faOf T K i) (fd i) ∧ ckF T d st = true := by
  have Fi : ∀ i : Nat, ∃ fd : FuncData, ∀ d : Df, T[i]? = some d → ∃ st, sts[i]? = some st ∧ FunD K d.name d.name (defArgs st) (defBody st) (defScope st) [] [] (faOf T K i) fd ∧ ckF T d st = true := fun i => by
    rcases hd : T[i]? with _ | d
    · exact ⟨⟨"", "", ⟨[], [], none, [], [], none, []⟩, .stmts [], ⟨.function, [], false, false, []⟩, 0, [], .none, .none, .none, .none, none, .none, .none, 0⟩, fun d h => by cases h⟩
    · obtain ⟨st, hs, e1, e2⟩ := ckT_at ck hd
      have hm : (sts.map mkD)[i]? = some (mkD st) := by rw [List.getElem?_map, hs]; rfl
      obtain ⟨fd, F⟩ := c.def_ i hm
      refine ⟨fd, fun d' h1 => ?_⟩
      have e := opt_inj h1
      subst e
      refine ⟨st, hs, ?_, e2⟩
      have F2 : FunD K (nameOf st) (nameOf st) (defArgs st) (defBody st) (defScope st) [] [] (He.fAd K (nameOf st, none)) fd := F
      rw [faOf_at hd]
      rw [e1] at F2
      exact F2
  exact ⟨fun i => Classical.choose (Fi i), fun i => Classical.choose_spec (Fi i)⟩
theorem rl_ints {K : Fg} {H : Hp} : ∀ l : List Int, RelL K H (l.map V.int) (l.map U.int)
  | [] => RelL.nil
  | i :: l => RelL.cons (Rel.int i) (rl_ints l)
theorem rl_arg {K : Fg} {H : Hp} {a : Addr} {xs : List V} (hO : Only H) (hS : SqL K H a xs) : Rl K H a xs := by
  rcases hS with hS | hS
  · rcases hS with hS | ⟨o, hS⟩
    · rcases hO a with z | ⟨o, xs, z⟩
      · rw [hS] at z; cases z
      · rw [hS] at z; cases z
    · exact .inl ⟨o, hS⟩
  · exact .inr hS
theorem law_ok {P : Program} {wd : World} {K : Fg} {h : Heap} {mg : Str → Option Value} {f : Addr} {T : List Df} {sts : List Stmt} {n : Nat} {k : Nat} {dl : Df} (ck : ckT T sts = true) (hb : ∀ (i : Nat) (d : Df) (st : Stmt), T[i]? = some d → sts[i]? = some st → BindP d.name st d.ps)
    (hn : T[n]? = some dl) (hps : dl.ps = ([("script" : Str)] : List Str)) (hname : dl.name = "law") (X : K.In h) (G : h.Ns mainGlobals mg) (hfa : mg ("law" : Str) = some (.ref f)) (c : He.SaysD (facts T) (sts.map mkD) K)
    (hlaw : ∀ ns : List Int, ns.length ≤ 63 → Cs T k n [.rol (ns.map U.int)] (fun _ => none) (fun u _ => u = .bl true)) :
    ∃ (fd : FuncData) (sp : Sp), (∀ (s : Shared) (v : Value), BindsTo s fd ⟨[v], []⟩ [("script", v)]) ∧
      (∀ (H : Hp) (a : Addr) (ns : List Int), ns.length ≤ 63 → Only H → SqL K H a (ns.map V.int) → sp [.ref a] H (fun v _ => v = .bl true) fun _ _ _ => False) ∧
      ∀ base : Heap, K.In base → base.Ns mainGlobals mg → FnOk P wd K mg base CX0 k f fd ["script"] sp := by
  obtain ⟨fd, hfd⟩ := hdef_of ck c
  have F := fun base => fn_ok (P := P) (wd := wd) (base := base) (T := T) (fa := faOf T K) (fd := fd) (K := K) (mg := mg) (fun i d hd => by
      obtain ⟨st, hs, e1, e2⟩ := hfd i d hd
      exact ⟨st, e1, e2, hb i d st hd hs⟩) (fun i d hd => hglo_of X G c hd) (hfree_of X G c) k n dl hn
  have ef : faOf T K n = f := by
    have q := hglo_of X G c hn
    rw [hname, hfa] at q
    exact (vref_inj q).symm
  obtain ⟨st, hs, e1, e2⟩ := hfd n dl hn
  have hbn := hb n dl st hn hs
  refine ⟨fd n, spOf K (Cs T k n), ?_, fun H a ns hl hO hS => ?_, fun base _ _ => ?_⟩
  · intro s v
    have q := e1.bindsA hbn s [v] (by rw [hps]; exact Eq.refl 1)
    rw [hps] at q
    exact q
  · have S0 : Sim K H (fun _ => none) := fun a o e => by exact absurd e (fun z => by cases z)
    have R0 : RelL K H [V.ref a] [U.rol (ns.map U.int)] := RelL.cons (Rel.rol (rl_arg hO hS) (rl_ints ns)) RelL.nil
    have C0 : Cont K H (fun _ => none) (fun u _ => u = U.bl true) (fun v _ => v = V.bl true) := fun v H2 u M2 _ _ (r : Rel K H2 v u) (e : u = .bl true) => by
      subst e
      cases r
      rfl
    exact ⟨[U.rol (ns.map U.int)], fun _ => none, fun u _ => u = U.bl true, S0, R0, hlaw ns hl, C0⟩
  · have q := F base
    rw [ef, hps] at q
    exact q
end Pl

set_option maxHeartbeats 400000
/-! tools to work with what is asked: one step each -/
namespace Pl
open PySem L2
theorem Sub.refl (M : Hm) : Sub M M := fun _ _ h => h
theorem Sub.trans {A B C : Hm} (h : Sub A B) (g : Sub B C) : Sub A C := fun a o e => g a o (h a o e)
theorem sub_um {A B : Hm} {p : Addr} {o : MO} (h : Sub A B) (hp : A p = none) : Sub A (um B p o) := fun a o' e => by
  by_cases q : a = p
  · subst q; rw [hp] at e; cases e
  · rw [um_ne q]; exact h a o' e
theorem sub_um2 {A B : Hm} {p : Addr} {o : MO} (h : Sub A B) : Sub (um A p o) (um B p o) := fun a o' e => by
  by_cases q : a = p
  · subst q; rw [um_same] at e ⊢; exact e
  · rw [um_ne q] at e ⊢; exact h a o' e
theorem um_old {M : Hm} {p a : Addr} {o o' : MO} (hp : M p = some o') (ha : M a = none) : um M a o p = some o' := by
  rw [um_ne]
  · exact hp
  · intro e; subst e; rw [hp] at ha; cases ha
theorem um_oth {M : Hm} {p a : Addr} {o : MO} {r : Option MO} (h : p ≠ a) (hp : M p = r) : um M a o p = r := by
  rw [um_ne h]; exact hp
theorem um_none {M : Hm} {p a : Addr} {o : MO} (h : um M a o p = none) : M p = none := by
  by_cases q : p = a
  · subst q; rw [um_same] at h; cases h
  · rw [um_ne q] at h; exact h
theorem um_noneN {M : Hm} {p a : Addr} {o : MO} (h : um M a o p = none) : p ≠ a := fun q => by
  subst q; rw [um_same] at h; cases h
/-- a new thing, seen from before -/
theorem sub_new {A B : Hm} {p : Addr} {o : MO} (h : Sub A B) (hp : B p = none) : Sub A (um B p o) := fun a o' e => um_old (h a o' e) hp
theorem ne_of_old {M : Hm} {p a : Addr} {o : MO} (hp : M p = some o) (ha : M a = none) : p ≠ a := fun e => by
  subst e; rw [hp] at ha; cases ha
theorem ne_of_old' {M : Hm} {p a : Addr} {o : MO} (hp : M p = some o) (ha : M a = none) : a ≠ p := fun e => by
  subst e; rw [hp] at ha; cases ha
section
variable {C : CE} {σ : SU} {M : Hm} {Q : QU} {T : Bool → Hm → Prop} {L : List U → Hm → Prop} {I : List U → (Hm → Prop) → ((Hm → Prop) → Hm → Prop) → Hm → Prop} {a b c d es : E} {i : Nat}
/-! ifs -/
theorem i_ift {A B : Prop} {k : Bool} (h : k = true) (q : A) : if k = true then A else B := by rw [if_pos h]; exact q
theorem i_iff {A B : Prop} {k : Bool} (h : k = false) (q : B) : if k = true then A else B := by rw [if_neg (by rw [h]; decide)]; exact q
theorem i_ifn {A B : Prop} {k : Bool} (q : if k = true then B else A) : if (!k) = true then A else B := by cases k <;> exact q
theorem i_ifd {A B P : Prop} [Decidable P] (h1 : P → A) (h2 : ¬P → B) : if decide P = true then A else B := by
  by_cases h : P
  · rw [if_pos (decide_eq_true h)]; exact h1 h
  · rw [if_neg (by simpa using h)]; exact h2 h
theorem i_ifdt {A B P : Prop} [Decidable P] (h : P) (q : A) : if decide P = true then A else B := i_ift (decide_eq_true h) q
theorem i_ifdf {A B P : Prop} [Decidable P] (h : ¬P) (q : B) : if decide P = true then A else B := i_iff (decide_eq_false h) q
theorem i_ifb {A B : Prop} {k : Bool} (h1 : k = true → A) (h2 : k = false → B) : if k = true then A else B := by
  cases k
  · exact i_iff rfl (h2 rfl)
  · exact i_ift rfl (h1 rfl)
theorem cmul_l {i j : Int} (h : -18446744073709551616 < i) (h2 : i < 18446744073709551616) : CMul i j := .inl ⟨h, h2⟩
theorem cmul_r {i j : Int} (h : -18446744073709551616 < j) (h2 : j < 18446744073709551616) : CMul i j := .inr ⟨h, h2⟩
theorem i_le {n : Nat} {R : Prop} (h : n ≤ LIM) (q : R) : n ≤ LIM ∧ R := ⟨h, q⟩
theorem i_lt {n : Nat} {R : Prop} (h : n < LIM) (q : R) : n < LIM ∧ R := ⟨h, q⟩
/-- what several ways come to -/
structure Hold (R : Prop) : Prop where
  out : R
theorem rest_of {R G : Prop} (f : Hold R → G) (k : R) : G := f ⟨k⟩
/-! values -/
theorem i_var {u : U} (h : σ[i]? = some (some u)) (q : Q u M) : (w C (.var i)).e σ M Q := ⟨u, h, q⟩
theorem i_int {i : Int} (q : Q (.int i) M) : (w C (.int i)).e σ M Q := q
theorem i_str {i : Str} (q : Q (.str i) M) : (w C (.str i)).e σ M Q := q
theorem i_bl {i : Bool} (q : Q (.bl i) M) : (w C (.bl i)).e σ M Q := q
theorem i_non (q : Q .non M) : (w C .non).e σ M Q := q
theorem i_nil (q : L [] M) : (w C .nil).l σ M L := q
theorem i_cons (q : (w C a).e σ M fun x M1 => (w C b).l σ M1 fun xs M2 => L (x :: xs) M2) : (w C (.cons a b)).l σ M L := q
theorem i_tup (q : (w C es).l σ M fun xs M1 => xs.length ≤ LIM ∧ Q (.tup xs) M1) : (w C (.tup es)).e σ M Q := q
theorem i_lst (q : (w C es).l σ M fun xs M1 => xs.length ≤ LIM ∧ ∀ p, M1 p = none → Q (.ref p) (um M1 p (.lst xs))) : (w C (.lst es)).e σ M Q := q
theorem i_dnew {t : Bool} (q : ∀ p, M p = none → Q (.ref p) (um M p (.dct false t []))) : (w C (.dnew t)).e σ M Q := q
theorem i_bin {op : Bop} (q : (w C a).e σ M fun x M1 => (w C b).e σ M1 fun y M2 => binW op x y M2 Q) : (w C (.bin op a b)).e σ M Q := q
theorem i_neg (q : (w C a).e σ M fun x M1 => ∃ i, x = .int i ∧ Q (.int (-i)) M1) : (w C (.neg a)).e σ M Q := q
theorem i_neg2 {j : Int} (q : Q (.int (-j)) M) : ∃ i, U.int j = .int i ∧ Q (.int (-i)) M := ⟨j, rfl, q⟩
theorem i_cmp {op : Cop} (q : (w C a).e σ M fun x M1 => (w C b).e σ M1 fun y M2 => cmpW op x y M2 fun k M3 => Q (.bl k) M3) : (w C (.cmp op a b)).e σ M Q := q
theorem i_chain {o p : Cop} (q : (w C a).e σ M fun x M1 => (w C b).e σ M1 fun y M2 => cmpW o x y M2 fun k M3 => if k = true then (w C c).e σ M3 fun z M4 => cmpW p y z M4 fun k M5 => Q (.bl k) M5 else Q (.bl false) M3) : (w C (.chain o p a b c)).e σ M Q := q
theorem i_isN (q : (w C a).e σ M fun x M1 => Q (.bl (decide (x = .non))) M1) : (w C (.isN a)).e σ M Q := q
theorem i_notN (q : (w C a).e σ M fun x M1 => Q (.bl (!decide (x = .non))) M1) : (w C (.notN a)).e σ M Q := q
theorem i_isB {b : Bool} (q : (w C a).e σ M fun x M1 => ∃ c, x = .bl c ∧ Q (.bl (decide (c = b))) M1) : (w C (.isB false b a)).e σ M Q := q
theorem i_isNB {b : Bool} (q : (w C a).e σ M fun x M1 => ∃ c, x = .bl c ∧ Q (.bl (!decide (c = b))) M1) : (w C (.isB true b a)).e σ M Q := q
theorem i_ands (q : (w C es).va σ M Q) : (w C (.ands es)).e σ M Q := q
theorem i_ors (q : (w C es).vo σ M Q) : (w C (.ors es)).e σ M Q := q
theorem i_not (q : bW (w C a).e σ M fun b M1 => Q (.bl (!b)) M1) : (w C (.not a)).e σ M Q := q
theorem i_bW {f : WE} (q : f σ M fun x M1 => ∃ b, x = .bl b ∧ T b M1) : bW f σ M T := q
theorem i_exB {b : Bool} {R : Bool → Prop} (q : R b) : ∃ c, U.bl b = .bl c ∧ R c := ⟨b, rfl, q⟩
theorem i_exI {j : Int} {R : Int → Prop} (q : R j) : ∃ c, U.int j = .int c ∧ R c := ⟨j, rfl, q⟩
theorem i_exII {j k : Int} {R : Int → Int → Prop} (q : R j k) : ∃ a b, U.int j = .int a ∧ U.int k = .int b ∧ R a b := ⟨j, k, rfl, rfl, q⟩
theorem i_ite (q : (w C c).t σ M fun k M1 => if k = true then (w C a).e σ M1 Q else (w C b).e σ M1 Q) : (w C (.ite c a b)).e σ M Q := q
theorem i_ix (q : (w C a).e σ M fun x M1 => (w C b).e σ M1 fun y M2 => ixW x y M2 Q) : (w C (.ix a b)).e σ M Q := q
theorem i_slice (q : (w C a).e σ M fun x M1 => partW b (w C b).e σ M1 fun l M2 => partW c (w C c).e σ M2 fun h M3 => sliceW x l h M3 Q) : (w C (.slice a b c)).e σ M Q := q
theorem i_part0 {f : WE} {O : Option Int → Hm → Prop} (q : O none M) : partW .nil f σ M O := q
theorem i_part1 {f : WE} {O : Option Int → Hm → Prop} (h : isNil a = false) (q : f σ M fun x M1 => ∃ i, x = .int i ∧ O (some i) M1) : partW a f σ M O := by
  unfold partW
  rw [if_neg (by rw [h]; decide)]
  exact q
theorem i_call {f : Nat} (q : (w C es).l σ M fun xs M1 => C f xs M1 Q) : (w C (.call f es)).e σ M Q := q
theorem i_blt {f : Bfn} (q : (w C es).l σ M fun xs M1 => bltW f xs M1 Q) : (w C (.blt f es)).e σ M Q := q
theorem i_mth {m : Mfn} (q : (w C a).e σ M fun x M1 => rcvW m x M1 ∧ (w C es).l σ M1 fun xs M2 => mthW m x xs M2 Q) : (w C (.mth m a es)).e σ M Q := q
theorem i_isinst {t : String} (q : (w C a).e σ M fun x M1 => isTyW x t M1 fun k M2 => Q (.bl k) M2) : (w C (.isinst a t)).e σ M Q := q
theorem i_compN {own : List (Str × Nat)} {tg : Tg} (q : (w C a).i σ M fun items g ex M1 => compL (fun x k M => tgW tg x (wipU σ tg.slots) fun σ2 => (w C c).e σ2 M fun y M3 => k (some y) M3) g (fun acc M => ex (fun M => ∀ p, M p = none → Q (.ref p) (um M p (.lst acc))) M) items [] M1) : (w C (.comp own tg a .nil c)).e σ M Q := by
  show compW _ _ _ _ _ _ _
  unfold compW
  simp only [isNil, if_true]
  exact q
theorem i_compC {own : List (Str × Nat)} {tg : Tg} (h : isNil b = false) (q : (w C a).i σ M fun items g ex M1 => compL (fun x k M => tgW tg x (wipU σ tg.slots) fun σ2 => (w C b).t σ2 M fun e M2 => if e = true then (w C c).e σ2 M2 fun y M3 => k (some y) M3 else k none M2) g (fun acc M => ex (fun M => ∀ p, M p = none → Q (.ref p) (um M p (.lst acc))) M) items [] M1) : (w C (.comp own tg a b c)).e σ M Q := by
  show compW _ _ _ _ _ _ _
  unfold compW
  simp only [h, Bool.false_eq_true, if_false]
  exact q
/-! tests -/
theorem t_var {u : U} (h : σ[i]? = some (some u)) (q : truW u M T) : (w C (.var i)).t σ M T := ⟨u, h, q⟩
theorem t_bl {i : Bool} (q : T i M) : (w C (.bl i)).t σ M T := q
theorem t_bin {op : Bop} (q : (w C a).e σ M fun x M1 => (w C b).e σ M1 fun y M2 => binW op x y M2 fun z M3 => truW z M3 T) : (w C (.bin op a b)).t σ M T := q
theorem t_ix (q : (w C a).e σ M fun x M1 => (w C b).e σ M1 fun y M2 => ixW x y M2 fun z M3 => truW z M3 T) : (w C (.ix a b)).t σ M T := q
theorem t_call {f : Nat} (q : (w C es).l σ M fun xs M1 => C f xs M1 fun z M2 => truW z M2 T) : (w C (.call f es)).t σ M T := q
theorem t_blt {f : Bfn} (q : (w C es).l σ M fun xs M1 => bltW f xs M1 fun z M2 => truW z M2 T) : (w C (.blt f es)).t σ M T := q
theorem t_cmp {op : Cop} (q : (w C a).e σ M fun x M1 => (w C b).e σ M1 fun y M2 => cmpW op x y M2 T) : (w C (.cmp op a b)).t σ M T := q
theorem t_chain {o p : Cop} (q : (w C a).e σ M fun x M1 => (w C b).e σ M1 fun y M2 => cmpW o x y M2 fun k M3 => if k = true then (w C c).e σ M3 fun z M4 => cmpW p y z M4 T else T false M3) : (w C (.chain o p a b c)).t σ M T := q
theorem t_isN (q : (w C a).e σ M fun x M1 => T (decide (x = .non)) M1) : (w C (.isN a)).t σ M T := q
theorem t_notN (q : (w C a).e σ M fun x M1 => T (!decide (x = .non)) M1) : (w C (.notN a)).t σ M T := q
theorem t_isB {b : Bool} (q : (w C a).e σ M fun x M1 => ∃ c, x = .bl c ∧ T (decide (c = b)) M1) : (w C (.isB false b a)).t σ M T := q
theorem t_isNB {b : Bool} (q : (w C a).e σ M fun x M1 => ∃ c, x = .bl c ∧ T (!decide (c = b)) M1) : (w C (.isB true b a)).t σ M T := q
theorem t_ands (q : (w C es).ta σ M T) : (w C (.ands es)).t σ M T := q
theorem t_ors (q : (w C es).to σ M T) : (w C (.ors es)).t σ M T := q
theorem t_not (q : (w C a).t σ M fun b M1 => T (!b) M1) : (w C (.not a)).t σ M T := q
theorem t_isinst {t : String} (q : (w C a).e σ M fun x M1 => isTyW x t M1 T) : (w C (.isinst a t)).t σ M T := q
theorem ta_1 (q : (w C a).t σ M T) : (w C (.cons a .nil)).ta σ M T := q
theorem ta_2 (q : (w C a).t σ M fun c M1 => if c = true then (w C (.cons b d)).ta σ M1 T else T false M1) : (w C (.cons a (.cons b d))).ta σ M T := q
theorem to_1 (q : (w C a).t σ M T) : (w C (.cons a .nil)).to σ M T := q
theorem to_2 (q : (w C a).t σ M fun c M1 => if c = true then T true M1 else (w C (.cons b d)).to σ M1 T) : (w C (.cons a (.cons b d))).to σ M T := q
theorem va_1 (q : (w C a).e σ M Q) : (w C (.cons a .nil)).va σ M Q := q
theorem va_2 (q : (w C a).e σ M fun x M1 => ∃ k, x = .bl k ∧ if k = true then (w C (.cons b d)).va σ M1 Q else Q (.bl false) M1) : (w C (.cons a (.cons b d))).va σ M Q := q
theorem vo_1 (q : (w C a).e σ M Q) : (w C (.cons a .nil)).vo σ M Q := q
theorem vo_2 (q : (w C a).e σ M fun x M1 => ∃ k, x = .bl k ∧ if k = true then Q (.bl true) M1 else (w C (.cons b d)).vo σ M1 Q) : (w C (.cons a (.cons b d))).vo σ M Q := q
/-! operations -/
theorem o_add {i j : Int} (q : Q (.int (i + j)) M) : binW .add (.int i) (.int j) M Q := q
theorem o_sub {i j : Int} (q : Q (.int (i - j)) M) : binW .sub (.int i) (.int j) M Q := q
theorem o_mul {i j : Int} (h : CMul i j) (q : Q (.int (i * j)) M) : binW .mul (.int i) (.int j) M Q := ⟨h, q⟩
theorem o_fdiv {i j : Int} (h : CDiv i j) (q : Q (.int (i / j)) M) : binW .fdiv (.int i) (.int j) M Q := ⟨h, q⟩
theorem o_mod {i j : Int} (h : 0 < j) (q : Q (.int (i % j)) M) : binW .mod (.int i) (.int j) M Q := ⟨h, q⟩
theorem o_pow {i j : Int} (h : CPow i j) (q : Q (.int (i ^ j.toNat)) M) : binW .pow (.int i) (.int j) M Q := ⟨h, q⟩
theorem o_shl {i j : Int} (h : CPow i j) (q : Q (.int (i * 2 ^ j.toNat)) M) : binW .shl (.int i) (.int j) M Q := ⟨h, q⟩
theorem o_addS {x y : Str} (h : x.length + y.length ≤ LIM) (q : Q (.str (x ++ y)) M) : binW .add (.str x) (.str y) M Q := ⟨h, q⟩
theorem o_addT {x y : List U} (h : x.length + y.length ≤ LIM) (q : Q (.tup (x ++ y)) M) : binW .add (.tup x) (.tup y) M Q := ⟨h, q⟩
theorem o_addL {p r : Addr} {us ws : List U} (hp : M p = some (.lst us)) (hr : M r = some (.lst ws)) (h : us.length + ws.length ≤ LIM) (q : ∀ a, M a = none → Q (.ref a) (um M a (.lst (us ++ ws)))) : binW .add (.ref p) (.ref r) M Q := ⟨us, ws, hp, hr, h, q⟩
theorem c_eq {x y : U} (q : eqW x y M T) : cmpW .eq x y M T := q
theorem c_ne {x y : U} (q : eqW x y M fun b M => T (!b) M) : cmpW .ne x y M T := q
theorem c_lt {i j : Int} (q : T (decide (i < j)) M) : cmpW .lt (.int i) (.int j) M T := q
theorem c_le {i j : Int} (q : T (decide (i ≤ j)) M) : cmpW .le (.int i) (.int j) M T := q
theorem c_gt {i j : Int} (q : T (decide (j < i)) M) : cmpW .gt (.int i) (.int j) M T := q
theorem c_ge {i j : Int} (q : T (decide (j ≤ i)) M) : cmpW .ge (.int i) (.int j) M T := q
theorem c_in {x y : U} (q : inW false x y M T) : cmpW .isin x y M T := q
theorem c_nin {x y : U} (q : inW true x y M T) : cmpW .notin x y M T := q
theorem eq_bl {a b : Bool} (q : T (decide (a = b)) M) : eqW (.bl a) (.bl b) M T := by
  have e : (a == b) = decide (a = b) := by cases a <;> cases b <;> rfl
  show T (a == b) M
  rw [e]; exact q
theorem eq_int {a b : Int} (q : T (decide (a = b)) M) : eqW (.int a) (.int b) M T := q
theorem eq_str {a b : Str} (q : T (decide (a = b)) M) : eqW (.str a) (.str b) M T := q
theorem eq_tup {a b : List U} (ha : okU (.tup a) = true) (hb : okU (.tup b) = true) (q : T (decide (U.tup a = U.tup b)) M) : eqW (.tup a) (.tup b) M T := ⟨ha, hb, q⟩
theorem eq_lst {p r : Addr} {us ws : List U} (hp : M p = some (.lst us)) (hr : M r = some (.lst ws)) (h1 : okL us = true) (h2 : okL ws = true) (q : T (decide (us = ws)) M) : eqW (.ref p) (.ref r) M T := ⟨us, ws, hp, hr, h1, h2, q⟩
theorem in_lst {x : U} {p : Addr} {us : List U} (hp : M p = some (.lst us)) (h1 : okU x = true) (h2 : okL us = true) (q : T (decide (x ∈ us)) M) : inW false x (.ref p) M T := .inl ⟨us, hp, h1, h2, q⟩
theorem nin_lst {x : U} {p : Addr} {us : List U} (hp : M p = some (.lst us)) (h1 : okU x = true) (h2 : okL us = true) (q : T (!decide (x ∈ us)) M) : inW true x (.ref p) M T := .inl ⟨us, hp, h1, h2, q⟩
theorem in_tup {x : U} {us : List U} (h1 : okU x = true) (h2 : okL us = true) (h3 : us.all isKey = true) (h4 : isKey x = true) (q : T (decide (x ∈ us)) M) : inW false x (.tup us) M T := ⟨h1, h2, ⟨h3, h4⟩, q⟩
theorem nin_tup {x : U} {us : List U} (h1 : okU x = true) (h2 : okL us = true) (h3 : us.all isKey = true) (h4 : isKey x = true) (q : T (!decide (x ∈ us)) M) : inW true x (.tup us) M T := ⟨h1, h2, ⟨h3, h4⟩, q⟩
theorem in_dct {z t : Bool} {x : U} {p : Addr} {ks : List (U × U)} (hp : M p = some (.dct z t ks)) (h1 : keyFor t x = true) (q : T (dfind ks x).isSome M) : inW false x (.ref p) M T := .inr ⟨z, t, ks, hp, h1, q⟩
theorem nin_dct {z t : Bool} {x : U} {p : Addr} {ks : List (U × U)} (hp : M p = some (.dct z t ks)) (h1 : keyFor t x = true) (q : T (!(dfind ks x).isSome) M) : inW true x (.ref p) M T := .inr ⟨z, t, ks, hp, h1, q⟩
theorem tr_bl {b : Bool} (q : T b M) : truW (.bl b) M T := q
theorem tr_int {i : Int} (q : T (!decide (i = 0)) M) : truW (.int i) M T := by
  have e : (i != 0) = !decide (i = 0) := rfl
  show T (i != 0) M
  rw [e]; exact q
theorem emp_dec {α : Type} (l : List α) [Decidable (l = [])] : l.isEmpty = decide (l = []) := by cases l <;> simp
theorem tr_tup {l : List U} (q : T (!decide (l = [])) M) : truW (.tup l) M T := by
  show T (!l.isEmpty) M
  rw [emp_dec]; exact q
theorem tr_non (q : T false M) : truW .non M T := q
theorem tr_lst {p : Addr} {us : List U} (hp : M p = some (.lst us)) (q : T (!decide (us = [])) M) : truW (.ref p) M T := .inl ⟨us, hp, by rw [emp_dec]; exact q⟩
theorem tr_dct {p : Addr} {ks : List (U × U)} (hp : M p = some (.dct false false ks)) (q : T (!decide (ks = [])) M) : truW (.ref p) M T := .inr ⟨ks, hp, by rw [emp_dec]; exact q⟩
theorem x_tup {l : List U} {j : Int} {v : U} (h : atI l j = some v) (q : Q v M) : ixW (.tup l) (.int j) M Q := ⟨j, v, rfl, h, q⟩
theorem x_lst {p : Addr} {us : List U} {j : Int} {v : U} (hp : M p = some (.lst us)) (h : atI us j = some v) (q : Q v M) : ixW (.ref p) (.int j) M Q := .inl ⟨us, j, v, hp, rfl, h, q⟩
theorem x_dct {p : Addr} {z t : Bool} {ks : List (U × U)} {x v : U} (hp : M p = some (.dct z t ks)) (hk : keyFor t x = true) (h : dfind ks x = some v) (q : Q v M) : ixW (.ref p) x M Q := .inr ⟨z, t, ks, v, hp, hk, h, q⟩
theorem g_lst {p : Addr} {us : List U} {j : Int} {v : U} (hp : M p = some (.lst us)) (h : atI us j = some v) (q : Q v M) : getW (.ref p) (.int j) M Q := .inl ⟨us, j, v, hp, rfl, h, q⟩
theorem g_dct {p : Addr} {z t : Bool} {ks : List (U × U)} {x v : U} (hp : M p = some (.dct z t ks)) (hk : keyFor t x = true) (h : dfind ks x = some v) (q : Q v M) : getW (.ref p) x M Q := .inr ⟨z, t, ks, v, hp, hk, h, q⟩
theorem sl_tup {l : List U} {x y : Option Int} (q : Q (.tup (cutU l x y)) M) : sliceW (.tup l) x y M Q := q
theorem sl_lst {p : Addr} {us : List U} {x y : Option Int} (hp : M p = some (.lst us)) (q : ∀ a, M a = none → Q (.ref a) (um M a (.lst (cutU us x y)))) : sliceW (.ref p) x y M Q := ⟨us, hp, q⟩
theorem st_lst {p : Addr} {us : List U} {j : Int} {k : Nat} {v : U} {R : Hm → Prop} (hp : M p = some (.lst us)) (h : ixN us.length j = some k) (q : R (um M p (.lst (us.set k v)))) : setW (.ref p) (.int j) v M R := .inl ⟨us, j, k, hp, rfl, h, q⟩
theorem st_dct {p : Addr} {t : Bool} {ks : List (U × U)} {x v : U} {R : Hm → Prop} (hp : M p = some (.dct false t ks)) (hk : keyFor t x = true) (hl : ks.length < LIM) (q : R (um M p (.dct false t (dput ks x v)))) : setW (.ref p) x v M R := .inr ⟨t, ks, hp, hk, hl, q⟩
theorem f_lenT {l : List U} (q : Q (.int l.length) M) : bltW .len [.tup l] M Q := q
theorem f_lenL {p : Addr} {us : List U} (hp : M p = some (.lst us)) (q : Q (.int us.length) M) : bltW .len [.ref p] M Q := .inl ⟨us, hp, q⟩
theorem f_lenD {p : Addr} {ks : List (U × U)} (hp : M p = some (.dct false false ks)) (q : Q (.int ks.length) M) : bltW .len [.ref p] M Q := .inr ⟨ks, hp, q⟩
theorem f_listT {l : List U} (q : ∀ a, M a = none → Q (.ref a) (um M a (.lst l))) : bltW .list [.tup l] M Q := q
theorem f_listL {p : Addr} {us : List U} (hp : M p = some (.lst us)) (q : ∀ a, M a = none → Q (.ref a) (um M a (.lst us))) : bltW .list [.ref p] M Q := .inl ⟨us, hp, q⟩
theorem f_listD {p : Addr} {ks : List (U × U)} (hp : M p = some (.dct false false ks)) (q : ∀ a, M a = none → Q (.ref a) (um M a (.lst (ks.map (·.1))))) : bltW .list [.ref p] M Q := .inr ⟨ks, hp, q⟩
theorem f_tupT {l : List U} (q : Q (.tup l) M) : bltW .tuple [.tup l] M Q := q
theorem f_tupL {p : Addr} {us : List U} (hp : M p = some (.lst us)) (q : Q (.tup us) M) : bltW .tuple [.ref p] M Q := ⟨us, hp, q⟩
theorem f_int {i : Int} (q : Q (.int i) M) : bltW .int [.int i] M Q := q
theorem f_intB {b : Bool} (q : Q (.int (if b then 1 else 0)) M) : bltW .int [.bl b] M Q := q
theorem f_abs {i : Int} (q : Q (.int (if i < 0 then -i else i)) M) : bltW .abs [.int i] M Q := q
theorem f_max {i j : Int} (q : Q (.int (if j > i then j else i)) M) : bltW .max [.int i, .int j] M Q := q
theorem f_min {i j : Int} (q : Q (.int (if j < i then j else i)) M) : bltW .min [.int i, .int j] M Q := q
theorem m_app {p : Addr} {us : List U} {x : U} (hp : M p = some (.lst us)) (hl : us.length < LIM) (q : Q .non (um M p (.lst (us ++ [x])))) : mthW .append (.ref p) [x] M Q := ⟨us, hp, hl, q⟩
theorem m_ext {p r : Addr} {us ws : List U} (hp : M p = some (.lst us)) (hr : M r = some (.lst ws)) (hl : us.length + ws.length ≤ LIM) (q : Q .non (um M p (.lst (us ++ ws)))) : mthW .extend (.ref p) [.ref r] M Q := ⟨us, ws, hp, hr, hl, q⟩
theorem m_pop {p : Addr} {us : List U} {x : U} (hp : M p = some (.lst us)) (hl : us[us.length - 1]? = some x) (q : Q x (um M p (.lst us.dropLast))) : mthW .pop (.ref p) [] M Q := ⟨us, x, hp, hl, q⟩
theorem m_popAt {p : Addr} {us : List U} {i : Int} {k : Nat} {x : U} (hp : M p = some (.lst us)) (hl : us.length ≤ LIM) (hi : ixN us.length i = some k) (hk : us[k]? = some x) (q : Q x (um M p (.lst (us.eraseIdx k)))) : mthW .popAt (.ref p) [.int i] M Q := ⟨us, k, x, hp, hl, hi, hk, q⟩
theorem r_app {p : Addr} {us : List U} (hp : M p = some (.lst us)) : rcvW .append (.ref p) M := ⟨p, us, rfl, hp⟩
theorem r_ext {p : Addr} {us : List U} (hp : M p = some (.lst us)) : rcvW .extend (.ref p) M := ⟨p, us, rfl, hp⟩
theorem r_pop {p : Addr} {us : List U} (hp : M p = some (.lst us)) : rcvW .pop (.ref p) M := ⟨p, us, rfl, hp⟩
theorem r_popAt {p : Addr} {us : List U} (hp : M p = some (.lst us)) : rcvW .popAt (.ref p) M := ⟨p, us, rfl, hp⟩
theorem i_rcvA {R : Prop} {p : Addr} {us : List U} (hp : M p = some (.lst us)) (q : R) : rcvW .append (.ref p) M ∧ R := ⟨r_app hp, q⟩
theorem i_rcvE {R : Prop} {p : Addr} {us : List U} (hp : M p = some (.lst us)) (q : R) : rcvW .extend (.ref p) M ∧ R := ⟨r_ext hp, q⟩
theorem i_rcvP {R : Prop} {p : Addr} {us : List U} (hp : M p = some (.lst us)) (q : R) : rcvW .pop (.ref p) M ∧ R := ⟨r_pop hp, q⟩
theorem i_rcvQ {R : Prop} {p : Addr} {us : List U} (hp : M p = some (.lst us)) (q : R) : rcvW .popAt (.ref p) M ∧ R := ⟨r_popAt hp, q⟩
theorem y_non {t : String} (q : T (t == "NoneType") M) : isTyW .non t M T := q
theorem y_bl {t : String} {b : Bool} (q : T (t == "bool" || t == "int") M) : isTyW (.bl b) t M T := q
theorem y_int {t : String} {i : Int} (q : T (t == "int") M) : isTyW (.int i) t M T := q
theorem y_str {t : String} {x : Str} (q : T (t == "str") M) : isTyW (.str x) t M T := q
theorem y_tup {t : String} {l : List U} (q : T (t == "tuple") M) : isTyW (.tup l) t M T := q
theorem y_lst {t : String} {p : Addr} {us : List U} (hp : M p = some (.lst us)) (q : T (t == "list") M) : isTyW (.ref p) t M T := ⟨us, hp, q⟩
/-! what is walked -/
theorem w_seq (q : (w C a).e σ M fun x M1 => seqI x M1 I) : (w C (.iSeq a)).i σ M I := q
theorem w_rng (q : (w C a).e σ M fun x M1 => ∃ n, x = .int n ∧ n ≤ LIM ∧ -LIM ≤ n ∧ I (rngU 0 n) (fun _ => True) (fun P => P) M1) : (w C (.iRange a)).i σ M I := q
theorem w_rng2 (q : (w C a).e σ M fun x M1 => (w C b).e σ M1 fun y M2 => ∃ m n, x = .int m ∧ y = .int n ∧ -LIM ≤ m ∧ m ≤ LIM ∧ n ≤ LIM ∧ -LIM ≤ n ∧ I (rngU m n) (fun _ => True) (fun P => P) M2) : (w C (.iRange2 a b)).i σ M I := q
theorem s_tup {l : List U} (q : I l (fun _ => True) (fun P => P) M) : seqI (.tup l) M I := q
theorem s_rol {l : List U} (q : I l (fun _ => True) (fun P => P) M) : seqI (.rol l) M I := q
theorem s_lst {p : Addr} {us : List U} (hp : M p = some (.lst us)) (q : I us (fun M' => M' p = some (.lst us)) (fun P => P) M) : seqI (.ref p) M I := ⟨us, hp, q⟩
theorem w_keys {d : Addr} {t : Bool} {ks : List (U × U)} (h : σ[i]? = some (some (.ref d))) (hd : M d = some (.dct false t ks)) (q : I (ks.map (·.1)) (fun M' => M' d = some (.dct true t ks)) (fun P M' => M' d = some (.dct true t ks) ∧ P (um M' d (.dct false t ks))) (um M d (.dct true t ks))) : (w C (.iKeys (.var i))).i σ M I := ⟨i, d, t, ks, rfl, h, hd, q⟩
/-! statements -/
variable {nx : SU → Hm → Prop} {rt : QU} {bk ct : SU → Hm → Prop} {x y z : S}
theorem z_skip (q : nx σ M) : wS C .skip ⟨nx, rt, bk, ct⟩ σ M := q
theorem z_seq (q : wS C x ⟨wS C y ⟨nx, rt, bk, ct⟩, rt, bk, ct⟩ σ M) : wS C (.seq x y) ⟨nx, rt, bk, ct⟩ σ M := q
theorem z_asg (q : (w C a).e σ M fun x M1 => nx (σ.set i (some x)) M1) : wS C (.asg i a) ⟨nx, rt, bk, ct⟩ σ M := q
theorem z_asgT {is : List Nat} (q : (w C a).e σ M fun x M1 => ∃ l σ', x = .tup l ∧ setAll is l σ = some σ' ∧ nx σ' M1) : wS C (.asgT is a) ⟨nx, rt, bk, ct⟩ σ M := q
theorem z_asgT2 {is : List Nat} {l : List U} {σ' : SU} (h : setAll is l σ = some σ') (q : nx σ' M) : ∃ l' σ', U.tup l = .tup l' ∧ setAll is l' σ = some σ' ∧ nx σ' M := ⟨l, σ', rfl, h, q⟩
theorem z_setIx (q : (w C c).e σ M fun v M1 => (w C a).e σ M1 fun x M2 => (w C b).e σ M2 fun y M3 => setW x y v M3 (nx σ)) : wS C (.setIx a b c) ⟨nx, rt, bk, ct⟩ σ M := q
theorem z_augV {op : Bop} {x : Int} (h : σ[i]? = some (some (.int x))) (q : (w C a).e σ M fun y M1 => ∃ b, y = .int b ∧ binW op (.int x) (.int b) M1 fun z M2 => nx (σ.set i (some z)) M2) : wS C (.augV i op a) ⟨nx, rt, bk, ct⟩ σ M := ⟨_, h, by
  have e : ∀ y M1, (∃ b, y = .int b ∧ binW op (.int x) (.int b) M1 fun z M2 => nx (σ.set i (some z)) M2) = (∃ a b, U.int x = .int a ∧ y = .int b ∧ binW op (.int x) y M1 fun z M2 => nx (σ.set i (some z)) M2) := fun y M1 => propext ⟨fun ⟨b, e, q⟩ => ⟨x, b, rfl, e, by rw [e]; exact q⟩, fun ⟨a, b, _, e, q⟩ => ⟨b, e, by rw [e] at q; exact q⟩⟩
  simp only [e] at q
  exact q⟩
theorem z_augIx {op : Bop} (q : (w C a).e σ M fun x M1 => (w C b).e σ M1 fun y M2 => getW x y M2 fun v M3 => (w C c).e σ M3 fun z M4 => ∃ a b, v = .int a ∧ z = .int b ∧ binW op v z M4 fun r M5 => setW x y r M5 (nx σ)) : wS C (.augIx a b op c) ⟨nx, rt, bk, ct⟩ σ M := q
theorem z_ifs (q : (w C c).t σ M fun k M1 => if k = true then wS C x ⟨nx, rt, bk, ct⟩ σ M1 else wS C y ⟨nx, rt, bk, ct⟩ σ M1) : wS C (.ifs c x y) ⟨nx, rt, bk, ct⟩ σ M := q
theorem z_for {tg : Tg} (q : (w C a).i σ M fun items g ex M1 => forL (fun u k σ M => tgW tg u σ fun σ2 => wS C x ⟨k, fun u M => ex (rt u) M, fun σ M => ex (nx σ) M, k⟩ σ2 M) g (fun σ M => ex (nx σ) M) items σ M1) : wS C (.for_ tg a x) ⟨nx, rt, bk, ct⟩ σ M := q
theorem z_ret (q : (w C a).e σ M rt) : wS C (.ret a) ⟨nx, rt, bk, ct⟩ σ M := q
theorem z_retN (q : rt .non M) : wS C .retN ⟨nx, rt, bk, ct⟩ σ M := q
theorem z_brk (q : bk σ M) : wS C .brk ⟨nx, rt, bk, ct⟩ σ M := q
theorem z_cnt (q : ct σ M) : wS C .cnt ⟨nx, rt, bk, ct⟩ σ M := q
theorem z_expr (q : (w C a).e σ M fun _ M1 => nx σ M1) : wS C (.expr a) ⟨nx, rt, bk, ct⟩ σ M := q
theorem tg_one {u : U} {R : SU → Prop} (q : R (σ.set i (some u))) : tgW (.one i) u σ R := q
theorem tg_many {is : List Nat} {l : List U} {σ' : SU} {R : SU → Prop} (h : setAll is l σ = some σ') (q : R σ') : tgW (.many is) (.tup l) σ R := ⟨l, σ', rfl, h, q⟩
end
/-- a loop by what holds between: what is done, what is left -/
theorem forL_by {α : Type} {enc : α → U} {step : U → (SU → Hm → Prop) → SU → Hm → Prop} {g : Hm → Prop} {fin : SU → Hm → Prop} (I : List α → List α → SU → Hm → Prop) (l : List α) {σ : SU} {M : Hm} (h0 : I [] l σ M)
    (h1 : ∀ don x rest σ M (k : SU → Hm → Prop), don ++ x :: rest = l → I don (x :: rest) σ M → (∀ σ' M', g M' → I (don ++ [x]) rest σ' M' → k σ' M') → step (enc x) k σ M)
    (h2 : ∀ σ M, I l [] σ M → fin σ M) : forL step g fin (l.map enc) σ M := by
  suffices h : ∀ (rest don : List α) σ M, don ++ rest = l → I don rest σ M → forL step g fin (rest.map enc) σ M from h l [] σ M rfl h0
  intro rest
  induction rest with
  | nil =>
    intro don σ M e h
    rw [List.append_nil] at e
    subst e
    exact h2 σ M h
  | cons x rest ih =>
    intro don σ M e h
    exact h1 don x rest σ M _ e h fun σ' M' hg hi => ⟨hg, ih (don ++ [x]) σ' M' (by rw [List.append_assoc]; exact e) hi⟩
theorem compL_by {α : Type} {enc : α → U} {step : U → (Option U → Hm → Prop) → Hm → Prop} {g : Hm → Prop} {fin : List U → Hm → Prop} (I : List α → List α → List U → Hm → Prop) (l : List α) {acc : List U} {M : Hm} (h0 : I [] l acc M)
    (h1 : ∀ don x rest acc M (k : Option U → Hm → Prop), don ++ x :: rest = l → I don (x :: rest) acc M → (∀ o M', g M' → (o.isSome = true → acc.length < LIM) → I (don ++ [x]) rest (acc ++ o.toList) M' → k o M') → step (enc x) k M)
    (h2 : ∀ acc M, I l [] acc M → fin acc M) : compL step g fin (l.map enc) acc M := by
  suffices h : ∀ (rest don : List α) acc M, don ++ rest = l → I don rest acc M → compL step g fin (rest.map enc) acc M from h l [] acc M rfl h0
  intro rest
  induction rest with
  | nil =>
    intro don acc M e h
    rw [List.append_nil] at e
    subst e
    exact h2 acc M h
  | cons x rest ih =>
    intro don acc M e h
    exact h1 don x rest acc M _ e h fun o M' hg hl hi => ⟨hg, hl, ih (don ++ [x]) _ M' (by rw [List.append_assoc]; exact e) hi⟩
end Pl

set_option maxHeartbeats 400000
local macro_rules | `(tactic| get_elem_tactic_extensible) => `(tactic| first | assumption | exact Pl.um_same | (refine Pl.um_old ?_ ?_ <;> get_elem_tactic_extensible) | (refine Pl.um_oth (by first | assumption | exact Ne.symm (by assumption)) ?_; get_elem_tactic_extensible) | exact Pl.um_none (by assumption))
local macro_rules | `(tactic| decreasing_trivial_pre_omega) => `(tactic| first | ((with_reducible apply Pl.i_var); exact rfl) | ((with_reducible apply Pl.t_var); exact rfl) | ((with_reducible apply Pl.x_tup); exact rfl) | with_reducible refine Pl.z_seq ?_ | with_reducible refine Pl.z_skip ?_ | with_reducible refine Pl.z_asg ?_ | with_reducible refine Pl.z_ret ?_ | with_reducible refine Pl.z_ifs ?_ | with_reducible refine Pl.i_int ?_ | with_reducible refine Pl.i_str ?_ | with_reducible refine Pl.i_bl ?_ | with_reducible refine Pl.i_non ?_ | with_reducible refine Pl.i_cons ?_ | with_reducible refine Pl.i_nil ?_ | with_reducible refine Pl.i_ix ?_ | with_reducible refine Pl.i_cmp ?_ | with_reducible refine Pl.t_cmp ?_ | with_reducible refine Pl.i_call ?_ | with_reducible refine Pl.i_blt ?_ | with_reducible refine Pl.i_tup ?_ | with_reducible refine Pl.i_bin ?_ | with_reducible refine Pl.o_add ?_ | with_reducible refine Pl.o_sub ?_ | with_reducible refine Pl.c_eq ?_ | with_reducible refine Pl.c_ne ?_ | with_reducible refine Pl.eq_int ?_ | with_reducible refine Pl.eq_str ?_ | with_reducible refine Pl.c_lt ?_ | with_reducible refine Pl.c_le ?_ | with_reducible refine Pl.c_gt ?_ | with_reducible refine Pl.c_ge ?_ | with_reducible refine Pl.to_2 ?_ | with_reducible refine Pl.to_1 ?_ | with_reducible refine Pl.ta_2 ?_ | with_reducible refine Pl.ta_1 ?_ | with_reducible refine Pl.t_ors ?_ | with_reducible refine Pl.t_ands ?_ | with_reducible refine Pl.t_not ?_ | with_reducible refine Pl.t_isN ?_ | with_reducible refine Pl.t_notN ?_ | with_reducible refine Pl.t_isB ?_ | with_reducible refine Pl.t_isNB ?_ | with_reducible refine Pl.t_isinst ?_ | with_reducible refine Pl.t_ix ?_ | with_reducible refine Pl.t_call ?_ | with_reducible refine Pl.t_blt ?_ | with_reducible refine Pl.t_bl ?_ | with_reducible refine Pl.t_bin ?_ | with_reducible refine Pl.t_chain ?_ | with_reducible refine Pl.i_lst ?_ | with_reducible refine Pl.i_dnew ?_ | with_reducible refine Pl.i_neg ?_ | with_reducible refine Pl.i_neg2 ?_ | with_reducible refine Pl.i_chain ?_ | with_reducible refine Pl.i_isN ?_ | with_reducible refine Pl.i_notN ?_ | with_reducible refine Pl.i_isB ?_ | with_reducible refine Pl.i_isNB ?_ | with_reducible refine Pl.i_ands ?_ | with_reducible refine Pl.i_ors ?_ | with_reducible refine Pl.i_not ?_ | with_reducible refine Pl.i_bW ?_ | with_reducible refine Pl.i_exB ?_ | with_reducible refine Pl.i_exI ?_ | with_reducible refine Pl.i_exII ?_ | with_reducible refine Pl.i_ite ?_ | with_reducible refine Pl.i_slice ?_ | with_reducible refine Pl.i_part0 ?_ | with_reducible refine Pl.i_mth ?_ | with_reducible refine Pl.i_isinst ?_ | with_reducible refine Pl.i_compN ?_ | with_reducible refine Pl.va_1 ?_ | with_reducible refine Pl.va_2 ?_ | with_reducible refine Pl.vo_1 ?_ | with_reducible refine Pl.vo_2 ?_ | with_reducible refine Pl.c_in ?_ | with_reducible refine Pl.c_nin ?_ | with_reducible refine Pl.eq_bl ?_ | with_reducible refine Pl.tr_bl ?_ | with_reducible refine Pl.tr_int ?_ | with_reducible refine Pl.tr_tup ?_ | with_reducible refine Pl.tr_non ?_ | with_reducible refine Pl.sl_tup ?_ | with_reducible refine Pl.f_lenT ?_ | with_reducible refine Pl.f_listT ?_ | with_reducible refine Pl.f_tupT ?_ | with_reducible refine Pl.f_int ?_ | with_reducible refine Pl.f_intB ?_ | with_reducible refine Pl.f_abs ?_ | with_reducible refine Pl.f_max ?_ | with_reducible refine Pl.f_min ?_ | with_reducible refine Pl.y_non ?_ | with_reducible refine Pl.y_bl ?_ | with_reducible refine Pl.y_int ?_ | with_reducible refine Pl.y_str ?_ | with_reducible refine Pl.y_tup ?_ | with_reducible refine Pl.w_seq ?_ | with_reducible refine Pl.w_rng ?_ | with_reducible refine Pl.w_rng2 ?_ | with_reducible refine Pl.s_tup ?_ | with_reducible refine Pl.s_rol ?_ | with_reducible refine Pl.z_asgT ?_ | with_reducible refine Pl.z_setIx ?_ | with_reducible refine Pl.z_augIx ?_ | with_reducible refine Pl.z_for ?_ | with_reducible refine Pl.z_retN ?_ | with_reducible refine Pl.z_brk ?_ | with_reducible refine Pl.z_cnt ?_ | with_reducible refine Pl.z_expr ?_ | with_reducible refine Pl.tg_one ?_ | with_reducible refine Pl.i_ifn ?_ | ((with_reducible apply Pl.i_compC); exact rfl) | ((with_reducible apply Pl.i_part1); exact rfl) | ((with_reducible apply Pl.z_asgT2); exact rfl) | ((with_reducible apply Pl.z_augV); exact rfl) | ((with_reducible apply Pl.tg_many); exact rfl) | ((with_reducible apply Pl.tr_lst); get_elem_tactic_extensible) | ((with_reducible apply Pl.tr_dct); get_elem_tactic_extensible) | ((with_reducible apply Pl.sl_lst); get_elem_tactic_extensible) | ((with_reducible apply Pl.f_lenL); get_elem_tactic_extensible) | ((with_reducible apply Pl.f_lenD); get_elem_tactic_extensible) | ((with_reducible apply Pl.f_listL); get_elem_tactic_extensible) | ((with_reducible apply Pl.f_listD); get_elem_tactic_extensible) | ((with_reducible apply Pl.f_tupL); get_elem_tactic_extensible) | ((with_reducible apply Pl.y_lst); get_elem_tactic_extensible) | ((with_reducible apply Pl.s_lst); get_elem_tactic_extensible) | ((with_reducible apply Pl.i_rcvA); get_elem_tactic_extensible) | ((with_reducible apply Pl.i_rcvE); get_elem_tactic_extensible) | ((with_reducible apply Pl.i_rcvP); get_elem_tactic_extensible) | ((with_reducible apply Pl.i_rcvQ); get_elem_tactic_extensible) | ((with_reducible apply Pl.x_lst); get_elem_tactic_extensible; exact rfl) | ((with_reducible apply Pl.g_lst); get_elem_tactic_extensible; exact rfl) | ((with_reducible apply Pl.st_lst); get_elem_tactic_extensible; exact rfl) | ((with_reducible apply Pl.i_ift); (first | exact rfl | assumption | decide +kernel)) | ((with_reducible apply Pl.i_iff); (first | exact rfl | assumption | decide +kernel)) | ((with_reducible apply Pl.o_mod); (first | omega | decide)) | ((with_reducible apply Pl.o_fdiv); exact ⟨by first | omega | decide, by first | omega | decide⟩) | ((with_reducible apply Pl.o_mul); first | exact Pl.cmul_l (by omega) (by omega) | exact Pl.cmul_r (by omega) (by omega)) | ((with_reducible apply Pl.o_pow); exact ⟨by decide, by decide, by decide⟩) | ((with_reducible apply Pl.o_shl); exact ⟨by decide, by decide, by decide⟩) | ((with_reducible apply Pl.i_ifdt); (first | assumption | exact rfl | decide +kernel)) | ((with_reducible apply Pl.i_ifdf); (first | assumption | decide +kernel)) | ((with_reducible refine Pl.i_le ?_ ?_); exact Nat.le_of_ble_eq_true rfl) | ((with_reducible refine Pl.i_lt ?_ ?_); exact Nat.le_of_ble_eq_true rfl))
/-! the draws -/
namespace Pl
open PySem L2
/-- a row of draws: where it lies, where its script lies -/
def Dr (M : Hm) (p : Addr × Addr) : Prop := ∃ (cells : List Int) (a b c : Int), p.2 ≠ p.1 ∧ M p.1 = some (.lst [.ref p.2, .int a, .int b, .int c]) ∧ M p.2 = some (.lst (cells.map U.int)) ∧ 0 ≤ a
def bDraw : S := (.seq (.ifs (.cmp .gt (.ix (.var 0) (.int 2)) (.int 0)) (.seq (.asg 2 (.ix (.var 0) (.int 2))) (.seq (.setIx (.var 0) (.int 2) (.bin .fdiv (.var 2) (.var 1))) (.seq (.ret (.bin .mod (.blt .int (.cons (.var 2) .nil)) (.var 1))) .skip))) .skip) (.seq (.asg 3 (.int 0)) (.seq (.ifs (.cmp .lt (.ix (.var 0) (.int 1)) (.blt .len (.cons (.ix (.var 0) (.int 0)) .nil))) (.seq (.asg 4 (.ix (.ix (.var 0) (.int 0)) (.ix (.var 0) (.int 1)))) (.seq (.asg 3 (.bin .add (.bin .mul (.int 2) (.blt .abs (.cons (.var 4) .nil))) (.blt .int (.cons (.cmp .lt (.var 4) (.int 0)) .nil)))) .skip)) .skip) (.seq (.augIx (.var 0) (.int 1) .add (.int 1)) (.seq (.ifs (.cmp .ge (.var 3) (.bin .mul (.int 2) (.bin .pow (.int 10) (.int 18)))) (.seq (.asg 2 (.bin .mod (.blt .int (.cons (.bin .fdiv (.var 3) (.int 2)) .nil)) (.bin .shl (.int 1) (.int 6000)))) (.seq (.setIx (.var 0) (.int 2) (.bin .fdiv (.var 2) (.var 1))) (.seq (.ret (.bin .mod (.blt .int (.cons (.var 2) .nil)) (.var 1))) .skip))) .skip) (.seq (.setIx (.var 0) (.int 3) (.bin .mod (.blt .int (.cons (.bin .add (.bin .add (.bin .add (.bin .mul (.ix (.var 0) (.int 3)) (.int 48271)) (.bin .mul (.bin .mod (.blt .int (.cons (.var 3) .nil)) (.int 2147483629)) (.int 16807))) (.bin .mul (.ix (.var 0) (.int 1)) (.int 69621))) (.int 11)) .nil)) (.int 2147483647))) (.seq (.ret (.bin .mod (.blt .int (.cons (.bin .fdiv (.ix (.var 0) (.int 3)) (.int 16)) .nil)) (.var 1))) .skip)))))))
theorem atI_map {l : List Int} {i : Int} (h0 : 0 ≤ i) (h : i < l.length) : ∃ x, atI (l.map U.int) i = some (.int x) := by
  unfold atI ixN
  rw [if_pos h0]
  have hn : i.toNat < l.length := by omega
  refine ⟨l[i.toNat], ?_⟩
  rw [if_pos (by rw [List.length_map]; exact h)]
  simp [hn]
theorem draw_ok {C : CE} {nx bk ct : SU → Hm → Prop} {rt : QU} {M : Hm} {p : Addr × Addr} {many : Int} (h : Dr M p) (h1 : 0 < many) (h2 : many < 1073741824)
    (hq : ∀ r M', 0 ≤ r → r < many → Dr M' p → (∀ a, a ≠ p.1 → M' a = M a) → rt (.int r) M') : wS C bDraw ⟨nx, rt, bk, ct⟩ (startU 5 [.ref p.1, .int many]) M := by
  obtain ⟨cells, a, b, c, hn, hp, hc, ha⟩ := h
  have many_ne : many ≠ 0 := by omega
  have fin : ∀ (a b c : Int) (x : Int), 0 ≤ a → rt (.int (x % many)) (um M p.1 (.lst [.ref p.2, .int a, .int b, .int c])) := fun a b c x ha =>
    hq _ _ (Int.emod_nonneg _ many_ne) (Int.emod_lt_of_pos _ h1) ⟨cells, a, b, c, hn, um_same, by rw [um_ne hn]; exact hc, ha⟩ (fun a h => um_ne h)
  unfold bDraw
  (repeat decreasing_trivial_pre_omega)
  refine i_ifd (fun hb => ?_) (fun hb => ?_)
  · (repeat decreasing_trivial_pre_omega)
    exact fin _ _ _ _ ha
  · (repeat decreasing_trivial_pre_omega)
    refine i_ifd (fun hi => ?_) (fun hi => ?_)
    · (repeat decreasing_trivial_pre_omega)
      obtain ⟨x, hx⟩ := atI_map ha (by simpa using hi)
      refine x_lst hc hx ?_
      (repeat decreasing_trivial_pre_omega)
      refine i_ifd (fun hs => ?_) (fun hs => ?_)
      · (repeat decreasing_trivial_pre_omega)
        simp only [um_um]
        exact fin _ _ _ _ (by omega)
      · (repeat decreasing_trivial_pre_omega)
        simp only [um_um]
        exact fin _ _ _ _ (by omega)
    · (repeat decreasing_trivial_pre_omega)
      simp only [um_um]
      exact fin _ _ _ _ (by omega)
/-- what is not the draws' own stays -/
def Fr (p : Addr × Addr) (M M' : Hm) : Prop := ∀ a, a ≠ p.1 → ∀ o, M a = some o → M' a = some o
theorem Fr.refl (p : Addr × Addr) (M : Hm) : Fr p M M := fun _ _ _ h => h
theorem Fr.trans {p : Addr × Addr} {A B D : Hm} (h : Fr p A B) (g : Fr p B D) : Fr p A D := fun a n o e => g a n o (h a n o e)
theorem Fr.at_ {p : Addr × Addr} {a : Addr} {A B : Hm} {r : MO} (h : Fr p A B) (n : a ≠ p.1) (e : A a = some r) : B a = some r := h a n r e
theorem Sub.fr {p : Addr × Addr} {A B : Hm} (h : Sub A B) : Fr p A B := fun a _ o e => h a o e
theorem Fr.of_eq {p : Addr × Addr} {A B : Hm} (h : ∀ a, a ≠ p.1 → B a = A a) : Fr p A B := fun a n o e => (h a n).trans e
theorem Dr.mem {M : Hm} {p : Addr × Addr} (h : Dr M p) : ∃ o, M p.1 = some o := by
  obtain ⟨cells, a, b, c, hn, hp, hc, ha⟩ := h
  exact ⟨_, hp⟩
theorem Dr.ne {M : Hm} {p : Addr × Addr} {a : Addr} (h : Dr M p) (ha : M a = none) : a ≠ p.1 := by
  obtain ⟨o, e⟩ := h.mem
  exact ne_of_old' e ha
/-- a thing of its own does not touch the draws -/
theorem Dr.upd {M : Hm} {p : Addr × Addr} {a : Addr} {o : MO} (h : Dr M p) (ha : M a = none) : Dr (um M a o) p := by
  have hne := h.ne ha
  obtain ⟨cells, i, b, c, hn, hp, hc, hi⟩ := h
  exact ⟨cells, i, b, c, hn, um_old hp ha, um_old hc ha, hi⟩
theorem Dr.sub {M M' : Hm} {p : Addr × Addr} (h : Dr M p) (s : Sub M M') : Dr M' p := by
  obtain ⟨cells, i, b, c, hn, hp, hc, hi⟩ := h
  exact ⟨cells, i, b, c, hn, s _ _ hp, s _ _ hc, hi⟩
def DrawC (C : CE) (f : Nat) : Prop := ∀ (M : Hm) (p : Addr × Addr) (many : Int) (Q : QU), Dr M p → 0 < many → many < 1073741824 →
  (∀ r M', 0 ≤ r → r < many → Dr M' p → Fr p M M' → Q (.int r) M') → C f [.ref p.1, .int many] M Q
theorem Dr.ne2 {M : Hm} {p : Addr × Addr} {a : Addr} (h : Dr M p) (ha : M a = none) : a ≠ p.2 := by
  obtain ⟨cells, i, b, c, hn, hp, hc, hi⟩ := h
  exact ne_of_old' hc ha
/-- a thing that is not the draws' own may change -/
theorem Dr.upd2 {M : Hm} {p : Addr × Addr} {a : Addr} {o : MO} (h : Dr M p) (h1 : a ≠ p.1) (h2 : a ≠ p.2) : Dr (um M a o) p := by
  obtain ⟨cells, i, b, c, hn, hp, hc, hi⟩ := h
  exact ⟨cells, i, b, c, hn, um_oth h1.symm hp, um_oth h2.symm hc, hi⟩
theorem Fr.non {p : Addr × Addr} {A B : Hm} {a : Addr} (h : Fr p A B) (n : a ≠ p.1) (e : B a = none) : A a = none := by
  cases q : A a with
  | none => rfl
  | some o => rw [h a n o q] at e; cases e
theorem Fr.upd {p : Addr × Addr} {A B : Hm} {a : Addr} {o : MO} (h : Fr p A B) (e : A a = none) : Fr p A (um B a o) := fun b n o' q => by
  rw [um_ne (ne_of_old q e)]
  exact h b n o' q
end Pl

set_option maxHeartbeats 400000
/-! one of a row; what the laws' own parts share -/
namespace Pl
open PySem L2
def bPick (f : Nat) : S := (.seq (.ret (.ix (.var 1) (.call f (.cons (.var 0) (.cons (.blt .len (.cons (.var 1) .nil)) .nil))))) .skip)
def RowAt (M : Hm) (p : Addr × Addr) (row : U) (us : List U) : Prop := row = .tup us ∨ ∃ r, row = .ref r ∧ r ≠ p.1 ∧ M r = some (.lst us)
theorem atI_nn {α : Type} {l : List α} {r : Int} (h0 : 0 ≤ r) (h : r < l.length) : ∃ x, atI l r = some x ∧ x ∈ l := by
  have hn : r.toNat < l.length := by omega
  refine ⟨l[r.toNat], ?_, List.getElem_mem hn⟩
  unfold atI ixN
  rw [if_pos h0, if_pos h]
  show l[r.toNat]? = some l[r.toNat]
  exact List.getElem?_eq_getElem hn
theorem pick_ok {C : CE} {f : Nat} (hd : DrawC C f) {nx bk ct : SU → Hm → Prop} {rt : QU} {M : Hm} {p : Addr × Addr} {row : U} {us : List U} (h : Dr M p) (hr : RowAt M p row us) (h1 : us ≠ []) (h2 : us.length < 1073741824)
    (hq : ∀ x M', x ∈ us → Dr M' p → Fr p M M' → rt x M') : wS C (bPick f) ⟨nx, rt, bk, ct⟩ (startU 2 [.ref p.1, row]) M := by
  have hl : 0 < us.length := List.length_pos_iff.mpr h1
  unfold bPick
  (repeat decreasing_trivial_pre_omega)
  rcases hr with rfl | ⟨r, rfl, hn, hm⟩
  · (repeat decreasing_trivial_pre_omega)
    refine hd _ _ _ _ h (by omega) (by omega) fun r M' r0 r1 d' fr => ?_
    obtain ⟨x, hx, hxm⟩ := atI_nn r0 r1
    refine x_tup hx ?_
    exact hq _ _ hxm d' fr
  · (repeat decreasing_trivial_pre_omega)
    refine hd _ _ _ _ h (by omega) (by omega) fun i M' r0 r1 d' fr => ?_
    obtain ⟨x, hx, hxm⟩ := atI_nn r0 r1
    refine x_lst (fr.at_ hn hm) hx ?_
    exact hq _ _ hxm d' fr
def PickC (C : CE) (f : Nat) : Prop := ∀ (M : Hm) (p : Addr × Addr) (row : U) (us : List U) (Q : QU), Dr M p → RowAt M p row us → us ≠ [] → us.length < 1073741824 →
  (∀ x M', x ∈ us → Dr M' p → Fr p M M' → Q x M') → C f [.ref p.1, row] M Q
def bBegin : S := (.seq (.ret (.lst (.cons (.comp [("cell", 1)] (.one 1) (.iSeq (.var 0)) .nil (.blt .int (.cons (.var 1) .nil))) (.cons (.int 0) (.cons (.int 0) (.cons (.int 7) .nil)))))) .skip)
theorem begin_ok {C : CE} {nx bk ct : SU → Hm → Prop} {rt : QU} {M : Hm} {ns : List Int} (hl : ns.length ≤ 63) (hq : ∀ (p : Addr × Addr) M', Sub M M' → Dr M' p → rt (.ref p.1) M') : wS C bBegin ⟨nx, rt, bk, ct⟩ (startU 2 [.rol (ns.map U.int)]) M := by
  unfold bBegin
  (repeat decreasing_trivial_pre_omega)
  refine compL_by (fun don rest acc M' => M' = M ∧ acc = don.map U.int) ns ⟨rfl, rfl⟩ ?_ ?_
  · intro don x rest acc M' k e ⟨e1, e2⟩ hk
    subst e1 e2
    (repeat decreasing_trivial_pre_omega)
    refine hk _ _ trivial (fun _ => ?_) ⟨rfl, by simp⟩
    have : don.length ≤ ns.length := by rw [← e]; simp
    simp [LIM]
    omega
  · intro acc M' ⟨e1, e2⟩
    subst e1 e2
    (repeat decreasing_trivial_pre_omega)
    intro q hq0
    (repeat decreasing_trivial_pre_omega)
    intro p hp0
    refine hq (p, q) _ ?_ ⟨ns, 0, 0, 7, ?_, um_same, ?_, by decide⟩
    · exact sub_um (sub_um (Sub.refl _) hq0) (um_none hp0)
    · intro e; have e : q = p := e; subst e; rw [um_same] at hp0; cases hp0
    · exact um_old um_same hp0
end Pl

set_option maxHeartbeats 400000
/-! traces, bodies; what their readers tell -/
namespace Pl
open PySem L2
/-- puts_before: trace, place, found, event -/
def B_puts_before : S := (.seq (.asg 2 (.dnew false)) (.seq (.for_ (.one 3) (.iSeq (.slice (.var 0) .nil (.var 1))) (.seq (.ifs (.cmp .eq (.ix (.var 3) (.int 0)) (.str "put")) (.seq (.setIx (.var 2) (.ix (.var 3) (.int 1)) (.ix (.var 3) (.int 2))) .skip) .skip) .skip)) (.seq (.ret (.var 2)) .skip)))
/-- lay_of: trace, found, file -/
def B_lay_of (puts_before : Nat) : S := (.seq (.asg 1 (.call puts_before (.cons (.var 0) (.cons (.blt .len (.cons (.var 0) .nil)) .nil)))) (.seq (.ret (.blt .tuple (.cons (.comp [("file", 2)] (.one 2) (.iKeys (.var 1)) .nil (.tup (.cons (.var 2) (.cons (.ix (.var 1) (.var 2)) .nil)))) .nil))) .skip))
/-- asks_of: trace, found, event -/
def B_asks_of : S := (.seq (.asg 1 (.dnew false)) (.seq (.for_ (.one 2) (.iSeq (.var 0)) (.seq (.ifs (.cmp .eq (.ix (.var 2) (.int 0)) (.str "ask")) (.seq (.setIx (.var 1) (.ix (.var 2) (.int 1)) (.bl true)) .skip) .skip) .skip)) (.seq (.ret (.blt .tuple (.cons (.blt .list (.cons (.var 1) .nil)) .nil))) .skip)))
/-- path_step: body, event -/
def B_path_step : S := (.seq (.ifs (.ors (.cons (.not (.isinst (.var 1) "tuple")) (.cons (.cmp .eq (.blt .len (.cons (.var 1) .nil)) (.int 0)) (.cons (.cmp .ne (.ix (.var 0) (.int 0)) (.ix (.var 1) (.int 0))) .nil)))) (.seq (.ret .non) .skip) .skip) (.seq (.ifs (.cmp .eq (.ix (.var 0) (.int 0)) (.str "see")) (.seq (.ifs (.ors (.cons (.cmp .ne (.blt .len (.cons (.var 1) .nil)) (.int 3)) (.cons (.cmp .ne (.ix (.var 1) (.int 1)) (.ix (.var 0) (.int 1))) (.cons (.not (.isinst (.ix (.var 1) (.int 2)) "int")) .nil)))) (.seq (.ret .non) .skip) .skip) (.seq (.ifs (.ors (.cons (.isinst (.ix (.var 1) (.int 2)) "bool") (.cons (.not (.chain .le .lt (.int 0) (.bin .add (.ix (.var 1) (.int 2)) (.int 1)) (.blt .len (.cons (.ix (.var 0) (.int 2)) .nil)))) .nil))) (.seq (.ret .non) .skip) .skip) (.seq (.ret (.ix (.ix (.var 0) (.int 2)) (.bin .add (.ix (.var 1) (.int 2)) (.int 1)))) .skip))) .skip) (.seq (.ifs (.cmp .eq (.ix (.var 0) (.int 0)) (.str "ask")) (.seq (.ret (.ite (.ands (.cons (.cmp .eq (.blt .len (.cons (.var 1) .nil)) (.int 2)) (.cons (.cmp .eq (.ix (.var 1) (.int 1)) (.ix (.var 0) (.int 1))) .nil))) (.ix (.var 0) (.int 2)) .non)) .skip) .skip) (.seq (.ifs (.cmp .eq (.ix (.var 0) (.int 0)) (.str "put")) (.seq (.ifs (.ors (.cons (.cmp .ne (.blt .len (.cons (.var 1) .nil)) (.int 3)) (.cons (.isinst (.ix (.var 1) (.int 2)) "bool") .nil))) (.seq (.ret .non) .skip) .skip) (.seq (.ret (.ite (.ands (.cons (.cmp .eq (.ix (.var 1) (.int 1)) (.ix (.var 0) (.int 1))) (.cons (.cmp .eq (.ix (.var 1) (.int 2)) (.ix (.var 0) (.int 2))) .nil))) (.ix (.var 0) (.int 3)) .non)) .skip)) .skip) (.seq (.ret .non) .skip)))))
/-- walks: body, trace, at, event -/
def B_walks (path_step : Nat) : S := (.seq (.ifs (.not (.isinst (.var 1) "tuple")) (.seq (.ret (.bl false)) .skip) .skip) (.seq (.asg 2 (.var 0)) (.seq (.for_ (.one 3) (.iSeq (.var 1)) (.seq (.asg 2 (.call path_step (.cons (.var 2) (.cons (.var 3) .nil)))) (.seq (.ifs (.isN (.var 2)) (.seq (.ret (.bl false)) .skip) .skip) .skip))) (.seq (.ret (.cmp .eq (.ix (.var 2) (.int 0)) (.str "done"))) .skip))))
/-- _law_lay: trace, files, last, event, file -/
def B_law_lay : S := (.seq (.asg 1 (.lst .nil)) (.seq (.asg 2 (.dnew false)) (.seq (.for_ (.one 3) (.iSeq (.var 0)) (.seq (.ifs (.cmp .eq (.ix (.var 3) (.int 0)) (.str "put")) (.seq (.ifs (.cmp .notin (.ix (.var 3) (.int 1)) (.var 1)) (.seq (.expr (.mth .append (.var 1) (.cons (.ix (.var 3) (.int 1)) .nil))) .skip) .skip) (.seq (.setIx (.var 2) (.ix (.var 3) (.int 1)) (.ix (.var 3) (.int 2))) .skip)) .skip) .skip)) (.seq (.ret (.blt .tuple (.cons (.comp [("file", 4)] (.one 4) (.iSeq (.var 1)) .nil (.tup (.cons (.var 4) (.cons (.ix (.var 2) (.var 4)) .nil)))) .nil))) .skip))))
/-- _law_asks: trace, found, event -/
def B_law_asks : S := (.seq (.asg 1 (.lst .nil)) (.seq (.for_ (.one 2) (.iSeq (.var 0)) (.seq (.ifs (.ands (.cons (.cmp .eq (.ix (.var 2) (.int 0)) (.str "ask")) (.cons (.cmp .notin (.ix (.var 2) (.int 1)) (.var 1)) .nil))) (.seq (.expr (.mth .append (.var 1) (.cons (.ix (.var 2) (.int 1)) .nil))) .skip) .skip) .skip)) (.seq (.ret (.blt .tuple (.cons (.var 1) .nil))) .skip)))
/-- _law_walks: body, trace, at, event -/
def B_law_walks : S := (.seq (.asg 2 (.var 0)) (.seq (.for_ (.one 3) (.iSeq (.var 1)) (.seq (.ifs (.ors (.cons (.cmp .ne (.ix (.var 2) (.int 0)) (.ix (.var 3) (.int 0))) (.cons (.cmp .ne (.ix (.var 2) (.int 1)) (.ix (.var 3) (.int 1))) .nil))) (.seq (.ret (.bl false)) .skip) .skip) (.seq (.ifs (.cmp .eq (.ix (.var 2) (.int 0)) (.str "see")) (.seq (.asg 2 (.ix (.ix (.var 2) (.int 2)) (.bin .add (.ix (.var 3) (.int 2)) (.int 1)))) .skip) (.seq (.ifs (.cmp .eq (.ix (.var 2) (.int 0)) (.str "put")) (.seq (.ifs (.cmp .ne (.ix (.var 2) (.int 2)) (.ix (.var 3) (.int 2))) (.seq (.ret (.bl false)) .skip) .skip) (.seq (.asg 2 (.ix (.var 2) (.int 3))) .skip)) (.seq (.asg 2 (.ix (.var 2) (.int 2))) .skip)) .skip)) .skip))) (.seq (.ret (.cmp .eq (.ix (.var 2) (.int 0)) (.str "done"))) .skip)))
inductive Ev where | ask (r : Str) | put (f : Str) (c : Int) | see (f : Str) (c : Int)
def encE : Ev → U
  | .ask r => .tup [.str "ask", .str r]
  | .put f c => .tup [.str "put", .str f, .int c]
  | .see f c => .tup [.str "see", .str f, .int c]
def Ev.ok : Ev → Prop
  | .ask r => okS r = true
  | .put f _ => okS f = true
  | .see f _ => okS f = true
theorem snocs {α : Type} {P : List α → Prop} (h0 : P []) (h1 : ∀ l x, P l → P (l ++ [x])) (l : List α) : P l := by
  suffices h : ∀ (r d : List α), P d → P (d ++ r) from h l [] h0
  intro r
  induction r with
  | nil => intro d h; rwa [List.append_nil]
  | cons x r ih => intro d h; have := ih (d ++ [x]) (h1 d x h); rwa [List.append_assoc] at this
/-! dicts as rows of pairs -/
theorem dput_len (ks : List (U × U)) (x v : U) : (dput ks x v).length ≤ ks.length + 1 := by
  unfold dput
  split
  · rw [List.length_map]; omega
  · rw [List.length_append]; exact Nat.le_refl _
theorem dfind_isSome {ks : List (U × U)} {x : U} : (dfind ks x).isSome = decide (x ∈ ks.map (·.1)) := by
  unfold dfind
  rw [Option.isSome_map]
  rw [Bool.eq_iff_iff, List.find?_isSome, decide_eq_true_eq, List.mem_map]
  constructor
  · rintro ⟨p, hp, e⟩; exact ⟨p, hp, of_decide_eq_true e⟩
  · rintro ⟨p, hp, e⟩; exact ⟨p, hp, decide_eq_true e⟩
theorem dput_keys (ks : List (U × U)) (x v : U) : (dput ks x v).map (·.1) = if x ∈ ks.map (·.1) then ks.map (·.1) else ks.map (·.1) ++ [x] := by
  unfold dput
  rw [dfind_isSome]
  by_cases h : x ∈ ks.map (·.1)
  · rw [if_pos (decide_eq_true h), if_pos h, List.map_map]
    refine List.map_congr_left fun p _ => ?_
    show (if p.1 = x then (p.1, v) else p).1 = p.1
    split <;> rfl
  · rw [if_neg (by simpa using h), if_neg h, List.map_append]
    rfl
theorem dput_mem {ks : List (U × U)} {x v : U} {p : U × U} (h : p ∈ dput ks x v) : p ∈ ks ∨ p = (x, v) := by
  unfold dput at h
  split at h
  · rw [List.mem_map] at h
    obtain ⟨q, hq, e⟩ := h
    split at e
    · rename_i hx
      right; rw [← e, hx]
    · left; rw [← e]; exact hq
  · rw [List.mem_append, List.mem_singleton] at h
    exact h
theorem dput_nodup {ks : List (U × U)} {x v : U} (h : (ks.map (·.1)).Nodup) : ((dput ks x v).map (·.1)).Nodup := by
  rw [dput_keys]
  split
  · exact h
  · rename_i hn
    rw [List.nodup_append]
    exact ⟨h, by simp, fun a ha b hb e => by rw [List.mem_singleton] at hb; subst hb; subst e; exact hn ha⟩
theorem dfind_mem {ks : List (U × U)} (h : (ks.map (·.1)).Nodup) {p : U × U} (hp : p ∈ ks) : dfind ks p.1 = some p.2 := by
  induction ks with
  | nil => cases hp
  | cons q ks ih =>
    rw [List.map_cons, List.nodup_cons] at h
    unfold dfind
    rw [List.find?_cons]
    rcases List.mem_cons.mp hp with e | hp
    · subst e
      simp
    · have hne : q.1 ≠ p.1 := fun e => h.1 (by rw [e]; exact List.mem_map_of_mem hp)
      rw [show decide (q.1 = p.1) = false from decide_eq_false hne]
      exact ih h.2 hp
theorem dput_find (ks : List (U × U)) (x v : U) : dfind (dput ks x v) x = some v := by
  unfold dput
  cases h : (dfind ks x).isSome with
  | true =>
    rw [if_pos rfl]
    induction ks with
    | nil => cases h
    | cons q ks ih =>
      unfold dfind
      rw [List.map_cons, List.find?_cons]
      by_cases e : q.1 = x
      · rw [if_pos e]
        simp [e]
      · rw [if_neg e, show decide (q.1 = x) = false from decide_eq_false e]
        refine ih ?_
        unfold dfind at h ⊢
        rw [List.find?_cons, show decide (q.1 = x) = false from decide_eq_false e] at h
        exact h
  | false =>
    rw [if_neg (by decide)]
    unfold dfind at h ⊢
    rw [List.find?_append]
    cases q : ks.find? (fun p => decide (p.1 = x)) with
    | some p => rw [q] at h; cases h
    | none => simp
def putsM (es : List Ev) : List (U × U) := es.foldl (fun ks e => match e with | .put f c => dput ks (.str f) (.int c) | _ => ks) []
theorem putsM_snoc (es : List Ev) (e : Ev) : putsM (es ++ [e]) = match e with | .put f c => dput (putsM es) (.str f) (.int c) | _ => putsM es := by
  unfold putsM
  rw [List.foldl_append]
  rfl
theorem putsM_len (es : List Ev) : (putsM es).length ≤ es.length := by
  induction es using snocs with
  | h0 => exact Nat.le_refl _
  | h1 es e ih =>
    rw [putsM_snoc, List.length_append]
    cases e with
    | put f c => have := dput_len (putsM es) (.str f) (.int c); simp; omega
    | _ => simp; omega
theorem putsM_nodup (es : List Ev) : ((putsM es).map (·.1)).Nodup := by
  induction es using snocs with
  | h0 => exact List.nodup_nil
  | h1 es e ih =>
    rw [putsM_snoc]
    cases e with
    | put f c => exact dput_nodup ih
    | _ => exact ih
theorem putsM_mem {es : List Ev} {p : U × U} (h : p ∈ putsM es) : ∃ f c, Ev.put f c ∈ es ∧ p = (.str f, .int c) := by
  induction es using snocs with
  | h0 => cases h
  | h1 es e ih =>
    rw [putsM_snoc] at h
    cases e with
    | put f c =>
      rcases dput_mem h with h | h
      · obtain ⟨f, c, h1, h2⟩ := ih h
        exact ⟨f, c, List.mem_append_left _ h1, h2⟩
      · exact ⟨f, c, List.mem_append_right _ (List.mem_singleton.mpr rfl), h⟩
    | _ =>
      obtain ⟨f, c, h1, h2⟩ := ih h
      exact ⟨f, c, List.mem_append_left _ h1, h2⟩
theorem cutU_take {α : Type} (l : List α) (n : Nat) : cutU l none (some (n : Int)) = l.take n := by
  unfold cutU HT.sIx
  simp only [List.drop_zero, Nat.sub_zero]
  rw [if_neg (by omega), Int.toNat_natCast]
  rcases Nat.le_total n l.length with h | h
  · rw [Nat.min_eq_left h]
  · rw [Nat.min_eq_right h, List.take_length, List.take_of_length_le h]
theorem puts_ok {C : CE} {nx bk ct : SU → Hm → Prop} {rt : QU} {M : Hm} {es : List Ev} {n : Nat} (hl : es.length < LIM) (hq : ∀ p, M p = none → rt (.ref p) (um M p (.dct false false (putsM (es.take n))))) :
    wS C B_puts_before ⟨nx, rt, bk, ct⟩ (startU 4 [.tup (es.map encE), .int n]) M := by
  unfold B_puts_before
  (repeat decreasing_trivial_pre_omega)
  intro p hp
  (repeat decreasing_trivial_pre_omega)
  rw [cutU_take, ← List.map_take]
  refine forL_by (fun don rest σ M' => (∃ u, σ = [some (.tup (es.map encE)), some (.int n), some (.ref p), u]) ∧ M' = um M p (.dct false false (putsM don))) (es.take n) ⟨⟨_, rfl⟩, rfl⟩ ?_ ?_
  · intro don x rest σ M' k e ⟨⟨u, e1⟩, e2⟩ hk
    subst e1 e2
    have hlen : (putsM don).length < LIM := by
      have h1 := putsM_len don
      have h2 : don.length ≤ (es.take n).length := by rw [← e, List.length_append]; omega
      rw [List.length_take] at h2
      omega
    cases x <;> simp only [encE] <;> (repeat decreasing_trivial_pre_omega)
    · exact hk _ _ trivial ⟨⟨_, rfl⟩, by rw [putsM_snoc]⟩
    · refine st_dct um_same rfl hlen ?_
      (repeat decreasing_trivial_pre_omega)
      exact hk _ _ trivial ⟨⟨_, rfl⟩, by rw [putsM_snoc, um_um]⟩
    · exact hk _ _ trivial ⟨⟨_, rfl⟩, by rw [putsM_snoc]⟩
  · intro σ M' ⟨⟨u, e1⟩, e2⟩
    subst e1 e2
    (repeat decreasing_trivial_pre_omega)
    exact hq p hp
def PutsC (C : CE) (f : Nat) : Prop := ∀ (M : Hm) (es : List Ev) (n : Nat) (Q : QU), es.length < LIM → (∀ p, M p = none → Q (.ref p) (um M p (.dct false false (putsM (es.take n))))) → C f [.tup (es.map encE), .int n] M Q
def pairU (p : U × U) : U := .tup [p.1, p.2]
def layU (es : List Ev) : U := .tup ((putsM es).map pairU)
theorem lay_ok {C : CE} {f : Nat} (hp : PutsC C f) {nx bk ct : SU → Hm → Prop} {rt : QU} {M : Hm} {es : List Ev} (hl : es.length < LIM) (hq : ∀ M', Sub M M' → rt (layU es) M') :
    wS C (B_lay_of f) ⟨nx, rt, bk, ct⟩ (startU 3 [.tup (es.map encE)]) M := by
  unfold B_lay_of
  (repeat decreasing_trivial_pre_omega)
  rw [List.length_map]
  refine hp _ _ _ _ hl fun p hp => ?_
  rw [List.take_length]
  (repeat decreasing_trivial_pre_omega)
  refine w_keys rfl um_same ?_
  rw [um_um]
  have hlen := putsM_len es
  refine compL_by (enc := fun p : U × U => p.1) (fun don rest acc M' => M' = um M p (.dct true false (putsM es)) ∧ acc = don.map pairU) (putsM es) ⟨rfl, rfl⟩ ?_ ?_
  · intro don x rest acc M' k e ⟨e1, e2⟩ hk
    subst e1 e2
    have hx : x ∈ putsM es := by rw [← e]; simp
    obtain ⟨g, c, _, ex⟩ := putsM_mem hx
    have hf := dfind_mem (putsM_nodup es) hx
    subst ex
    (repeat decreasing_trivial_pre_omega)
    refine x_dct um_same rfl hf ?_
    (repeat decreasing_trivial_pre_omega)
    refine hk _ _ um_same (fun _ => ?_) ⟨rfl, by simp [pairU]⟩
    have : (putsM es).length = don.length + rest.length + 1 := by rw [← e]; simp; omega
    rw [List.length_map]
    omega
  · intro acc M' ⟨e1, e2⟩
    subst e1 e2
    refine ⟨um_same, fun q hq0 => ?_⟩
    (repeat decreasing_trivial_pre_omega)
    refine hq _ ?_
    rw [um_um] at hq0 ⊢
    exact sub_um (sub_um (Sub.refl _) hp) (um_none hq0)
end Pl

set_option maxHeartbeats 400000
/-! the same told by a law; bodies and walks -/
namespace Pl
open PySem L2
theorem okL_of {l : List U} (h : ∀ x ∈ l, x.ok 59 = true) : okL l = true := List.all_eq_true.mpr h
theorem law_lay_ok {C : CE} {nx bk ct : SU → Hm → Prop} {rt : QU} {M : Hm} {es : List Ev} {tr : U} (ht : tr = .tup (es.map encE) ∨ ∃ p, tr = .ref p ∧ M p = some (.lst (es.map encE))) (ho : ∀ e ∈ es, e.ok) (hl : es.length < LIM) (hq : ∀ M', Sub M M' → rt (layU es) M') :
    wS C B_law_lay ⟨nx, rt, bk, ct⟩ (startU 5 [tr]) M := by
  unfold B_law_lay
  (repeat decreasing_trivial_pre_omega)
  intro p hp
  (repeat decreasing_trivial_pre_omega)
  intro q hq0
  have hpq : p ≠ q := fun e => by subst e; rw [um_same] at hq0; cases hq0
  have hq1 := um_none hq0
  (repeat decreasing_trivial_pre_omega)
  have key : forL (fun u k σ M => tgW (.one 3) u σ fun σ2 => wS C (.seq (.ifs (.cmp .eq (.ix (.var 3) (.int 0)) (.str "put")) (.seq (.ifs (.cmp .notin (.ix (.var 3) (.int 1)) (.var 1)) (.seq (.expr (.mth .append (.var 1) (.cons (.ix (.var 3) (.int 1)) .nil))) .skip) .skip) (.seq (.setIx (.var 2) (.ix (.var 3) (.int 1)) (.ix (.var 3) (.int 2))) .skip)) .skip) .skip) ⟨k, rt, wS C (.seq (.ret (.blt .tuple (.cons (.comp [("file", 4)] (.one 4) (.iSeq (.var 1)) .nil (.tup (.cons (.var 4) (.cons (.ix (.var 2) (.var 4)) .nil)))) .nil))) .skip) ⟨nx, rt, bk, ct⟩, k⟩ σ2 M) (fun M' => (∃ r, tr = .ref r) → ∀ r, tr = .ref r → M' r = some (.lst (es.map encE))) (wS C (.seq (.ret (.blt .tuple (.cons (.comp [("file", 4)] (.one 4) (.iSeq (.var 1)) .nil (.tup (.cons (.var 4) (.cons (.ix (.var 2) (.var 4)) .nil)))) .nil))) .skip) ⟨nx, rt, bk, ct⟩) (es.map encE) [some tr, some (.ref p), some (.ref q), none, none] (um (um M p (.lst [])) q (.dct false false [])) := by
    refine forL_by (fun don rest σ M' => (∃ u, σ = [some tr, some (.ref p), some (.ref q), u, none]) ∧ M' = um (um M p (.lst ((putsM don).map (·.1)))) q (.dct false false (putsM don))) es ⟨⟨_, rfl⟩, rfl⟩ ?_ ?_
    · intro don x rest σ M' k e ⟨⟨u, e1⟩, e2⟩ hk
      subst e1 e2
      have hg : ∀ l ks, (∃ r, tr = .ref r) → ∀ r, tr = .ref r → um (um M p (.lst l)) q (.dct false false ks) r = some (.lst (es.map encE)) := fun l ks _ r er => by
        rcases ht with ht | ⟨r', e', hr⟩
        · rw [ht] at er; cases er
        · rw [e'] at er; cases er
          exact um_old (um_old hr hp) (by rw [um_ne hpq.symm]; exact hq1)
      have hlen : don.length + rest.length + 1 = es.length := by rw [← e]; simp; omega
      have hlen2 := putsM_len don
      have hl3 : (putsM don).length < LIM := by omega
      cases x with
      | ask r =>
        simp only [encE]
        (repeat decreasing_trivial_pre_omega)
        refine hk _ _ (hg _ _) ⟨⟨_, rfl⟩, by rw [putsM_snoc]⟩
      | see f c =>
        simp only [encE]
        (repeat decreasing_trivial_pre_omega)
        refine hk _ _ (hg _ _) ⟨⟨_, rfl⟩, by rw [putsM_snoc]⟩
      | put f c =>
        simp only [encE]
        (repeat decreasing_trivial_pre_omega)
        have hf : okS f = true := ho (.put f c) (by rw [← e]; simp)
        refine nin_lst (um_oth hpq um_same) hf (okL_of fun x hx => ?_) ?_
        · rw [List.mem_map] at hx
          obtain ⟨y, hy, rfl⟩ := hx
          obtain ⟨g, c', hm, rfl⟩ := putsM_mem hy
          exact ho (.put g c') (by rw [← e]; exact List.mem_append_left _ hm)
        have hkeys := dput_keys (putsM don) (.str f) (.int c)
        by_cases hm : (.str f : U) ∈ (putsM don).map (·.1)
        · rw [if_pos hm] at hkeys
          (repeat decreasing_trivial_pre_omega)
          refine st_dct (t := false) (x := .str f) um_same rfl hl3 ?_
          (repeat decreasing_trivial_pre_omega)
          refine hk _ _ ?_ ⟨⟨_, rfl⟩, ?_⟩
          · rw [um_um]; exact hg _ _
          · rw [putsM_snoc, um_um]
            show um (um M p _) q _ = um (um M p (.lst ((dput (putsM don) (.str f) (.int c)).map (·.1)))) q _
            rw [hkeys]
        · rw [if_neg hm] at hkeys
          (repeat decreasing_trivial_pre_omega)
          refine m_app (um_oth hpq um_same) (by rw [List.length_map]; exact hl3) ?_
          (repeat decreasing_trivial_pre_omega)
          refine st_dct (um_oth hpq.symm um_same) rfl hl3 ?_
          (repeat decreasing_trivial_pre_omega)
          have em : um (um (um (um M p (.lst ((putsM don).map (·.1)))) q (.dct false false (putsM don))) p (.lst ((putsM don).map (·.1) ++ [.str f]))) q (.dct false false (dput (putsM don) (.str f) (.int c))) = um (um M p (.lst ((putsM (don ++ [.put f c])).map (·.1)))) q (.dct false false (putsM (don ++ [.put f c]))) := by
            rw [putsM_snoc]
            show _ = um (um M p (.lst ((dput (putsM don) (.str f) (.int c)).map (·.1)))) q _
            rw [hkeys]
            rw [um_comm (a := q) (b := p) hpq.symm, um_um, um_um]
          refine hk _ _ ?_ ⟨⟨_, rfl⟩, em⟩
          rw [em]
          exact hg _ _
    · intro σ M' ⟨⟨u, e1⟩, e2⟩
      subst e1 e2
      have hlen := putsM_len es
      (repeat decreasing_trivial_pre_omega)
      refine compL_by (enc := fun p : U × U => p.1) (fun don rest acc M' => M' = um (um M p (.lst ((putsM es).map (·.1)))) q (.dct false false (putsM es)) ∧ acc = don.map pairU) (putsM es) ⟨rfl, rfl⟩ ?_ ?_
      · intro don x rest acc M' k e ⟨e1, e2⟩ hk
        subst e1 e2
        have hx : x ∈ putsM es := by rw [← e]; simp
        obtain ⟨g, c, _, ex⟩ := putsM_mem hx
        have hf := dfind_mem (putsM_nodup es) hx
        subst ex
        (repeat decreasing_trivial_pre_omega)
        refine x_dct um_same rfl hf ?_
        (repeat decreasing_trivial_pre_omega)
        refine hk _ _ (um_oth hpq um_same) (fun _ => ?_) ⟨rfl, by simp [pairU]⟩
        have : (putsM es).length = don.length + rest.length + 1 := by rw [← e]; simp; omega
        rw [List.length_map]
        omega
      · intro acc M' ⟨e1, e2⟩
        subst e1 e2
        intro r hr0
        (repeat decreasing_trivial_pre_omega)
        refine hq _ ?_
        refine sub_um (sub_um (sub_um (Sub.refl _) hp) hq1) (um_none (um_none hr0))
  rcases ht with rfl | ⟨r, rfl, hr⟩
  · (repeat decreasing_trivial_pre_omega)
    refine cast ?_ key
    congr 1
    funext M'
    exact propext ⟨fun h => trivial, fun _ ⟨r, e⟩ => by cases e⟩
  · refine s_lst (um_old (um_old hr hp) hq0) ?_
    refine cast ?_ key
    congr 1
    funext M'
    exact propext ⟨fun h => h ⟨_, rfl⟩ _ rfl, fun h _ r' e => by cases e; exact h⟩
end Pl

set_option maxHeartbeats 400000
/-! bodies and walks; asks -/
namespace Pl
open PySem L2
inductive Bd where | done | put (f : Str) (c : Int) (b : Bd) | ask (r : Str) (b : Bd) | see (f : Str) (bs : List Bd)
mutual
def encB : Bd → U
  | .done => .tup [.str "done"]
  | .put f c b => .tup [.str "put", .str f, .int c, encB b]
  | .ask r b => .tup [.str "ask", .str r, encB b]
  | .see f bs => .tup [.str "see", .str f, .tup (encBs bs)]
def encBs : List Bd → List U
  | [] => []
  | b :: bs => encB b :: encBs bs
end
theorem encBs_map : ∀ bs : List Bd, encBs bs = bs.map encB
  | [] => rfl
  | b :: bs => by rw [encBs, encBs_map bs]; rfl
inductive BW (n : Nat) : Bd → Prop where
  | done : BW n .done
  | put {f c b} : okS f = true → BW n b → BW n (.put f c b)
  | ask {r b} : okS r = true → BW n b → BW n (.ask r b)
  | see {f bs} : okS f = true → bs.length = n → (∀ b ∈ bs, BW n b) → BW n (.see f bs)
def stepB : Bd → Ev → Option Bd
  | .see f bs, .see g c => if g = f then (if 0 ≤ c + 1 ∧ c + 1 < bs.length then bs[(c + 1).toNat]? else none) else none
  | .ask r b, .ask s => if s = r then some b else none
  | .put f c b, .put g d => if g = f then (if d = c then some b else none) else none
  | _, _ => none
def optU : Option Bd → U
  | none => .non
  | some b => encB b
theorem atI_enc {bs : List Bd} {i : Int} {n : Nat} (h0 : 0 ≤ i) (h1 : i < bs.length) (hn : n = i.toNat) : ∃ b, bs[n]? = some b ∧ atI (encBs bs) i = some (encB b) ∧ b ∈ bs := by
  have hi : i.toNat < bs.length := by omega
  refine ⟨bs[i.toNat], by rw [hn]; exact List.getElem?_eq_getElem hi, ?_, List.getElem_mem hi⟩
  rw [encBs_map]
  unfold atI ixN
  rw [if_pos h0, if_pos (by rw [List.length_map]; exact h1)]
  show (bs.map encB)[i.toNat]? = _
  rw [List.getElem?_map, List.getElem?_eq_getElem hi]
  rfl
theorem encBs_length (bs : List Bd) : (encBs bs).length = bs.length := by rw [encBs_map, List.length_map]
theorem path_step_ok {C : CE} {nx bk ct : SU → Hm → Prop} {rt : QU} {M : Hm} {b : Bd} {e : Ev} (hq : rt (optU (stepB b e)) M) : wS C B_path_step ⟨nx, rt, bk, ct⟩ (startU 2 [encB b, encE e]) M := by
  unfold B_path_step
  cases b <;> cases e <;> simp only [encB, encE, stepB] at hq ⊢ <;> (repeat decreasing_trivial_pre_omega) <;> try exact hq
  · rename_i f c b g d
    refine i_ifd (fun h1 => ?_) (fun h1 => ?_)
    · rw [if_pos h1] at hq
      (repeat decreasing_trivial_pre_omega)
      refine i_ifd (fun h2 => ?_) (fun h2 => ?_)
      · rw [if_pos h2] at hq
        (repeat decreasing_trivial_pre_omega)
        exact hq
      · rw [if_neg h2] at hq
        (repeat decreasing_trivial_pre_omega)
        exact hq
    · rw [if_neg h1] at hq
      (repeat decreasing_trivial_pre_omega)
      exact hq
  · rename_i r b s
    refine i_ifd (fun h1 => ?_) (fun h1 => ?_)
    · rw [if_pos h1] at hq
      (repeat decreasing_trivial_pre_omega)
      exact hq
    · rw [if_neg h1] at hq
      (repeat decreasing_trivial_pre_omega)
      exact hq
  · rename_i f bs g c
    refine i_ifd (fun h1 => ?_) (fun h1 => ?_)
    · rw [if_pos h1] at hq
      (repeat decreasing_trivial_pre_omega)
      refine i_ifd (fun h2 => ?_) (fun h2 => ?_)
      · (repeat decreasing_trivial_pre_omega)
        rw [encBs_length]
        refine i_ifd (fun h3 => ?_) (fun h3 => ?_)
        · (repeat decreasing_trivial_pre_omega)
          rw [if_pos ⟨h2, h3⟩] at hq
          obtain ⟨b, hb, hx, _⟩ := atI_enc h2 h3 rfl
          rw [hb] at hq
          refine x_tup hx ?_
          exact hq
        · (repeat decreasing_trivial_pre_omega)
          rw [if_neg (fun z => h3 z.2)] at hq
          exact hq
      · (repeat decreasing_trivial_pre_omega)
        rw [if_neg (fun z => h2 z.1)] at hq
        exact hq
    · rw [if_neg h1] at hq
      (repeat decreasing_trivial_pre_omega)
      exact hq
def StepC (C : CE) (f : Nat) : Prop := ∀ (M : Hm) (b : Bd) (e : Ev) (Q : QU), Q (optU (stepB b e)) M → C f [encB b, encE e] M Q
def walkB (b : Bd) (es : List Ev) : Option Bd := es.foldl (fun o e => o.bind fun b => stepB b e) (some b)
theorem walkB_snoc (b : Bd) (es : List Ev) (e : Ev) : walkB b (es ++ [e]) = (walkB b es).bind fun b => stepB b e := by
  unfold walkB
  rw [List.foldl_append]
  rfl
theorem walkB_none {b : Bd} {es fs : List Ev} (h : walkB b es = none) : walkB b (es ++ fs) = none := by
  induction fs using snocs with
  | h0 => rw [List.append_nil]; exact h
  | h1 l x ih => rw [← List.append_assoc, walkB_snoc, ih]; rfl
def isDone : Option Bd → Bool
  | some .done => true
  | _ => false
def walksM (b : Bd) (es : List Ev) : Bool := isDone (walkB b es)
theorem walksM_cut {b : Bd} {don rest : List Ev} {x : Ev} (h : walkB b (don ++ [x]) = none) : walksM b (don ++ x :: rest) = false := by
  have e : don ++ x :: rest = (don ++ [x]) ++ rest := by simp
  unfold walksM
  rw [e, walkB_none h]
  rfl
theorem walks_ok {C : CE} {f : Nat} (hs : StepC C f) {nx bk ct : SU → Hm → Prop} {rt : QU} {M : Hm} {b : Bd} {es : List Ev} (hq : rt (.bl (walksM b es)) M) : wS C (B_walks f) ⟨nx, rt, bk, ct⟩ (startU 4 [encB b, .tup (es.map encE)]) M := by
  unfold B_walks
  (repeat decreasing_trivial_pre_omega)
  refine forL_by (fun don rest σ M' => (∃ u at_, walkB b don = some at_ ∧ σ = [some (encB b), some (.tup (es.map encE)), some (encB at_), u]) ∧ M' = M) es ⟨⟨_, b, rfl, rfl⟩, rfl⟩ ?_ ?_
  · intro don x rest σ M' k e ⟨⟨u, at_, ha, e1⟩, e2⟩ hk
    subst e1 e2
    (repeat decreasing_trivial_pre_omega)
    refine hs _ _ _ _ ?_
    (repeat decreasing_trivial_pre_omega)
    have hw := walkB_snoc b don x
    rw [ha] at hw
    cases hn : stepB at_ x with
    | none =>
      rw [show (some at_).bind (fun b => stepB b x) = stepB at_ x from rfl, hn] at hw
      have hf := walksM_cut (rest := rest) hw
      rw [e] at hf
      rw [hf] at hq
      (repeat decreasing_trivial_pre_omega)
      exact hq
    | some b' =>
      rw [show (some at_).bind (fun b => stepB b x) = stepB at_ x from rfl, hn] at hw
      have hne : optU (some b') ≠ .non := by cases b' <;> simp [optU, encB]
      (repeat decreasing_trivial_pre_omega)
      exact hk _ _ trivial ⟨⟨_, b', hw, rfl⟩, rfl⟩
  · intro σ M' ⟨⟨u, at_, ha, e1⟩, e2⟩
    subst e1 e2
    unfold walksM at hq
    rw [ha] at hq
    cases at_ <;> simp only [encB] <;> (repeat decreasing_trivial_pre_omega) <;> exact hq
theorem law_walks_ok {C : CE} {nx bk ct : SU → Hm → Prop} {rt : QU} {M : Hm} {b : Bd} {es : List Ev} {n : Nat} (hb : BW n b) (he : ∀ f c, Ev.see f c ∈ es → 0 ≤ c + 1 ∧ c + 1 < n) (hq : rt (.bl (walksM b es)) M) : wS C B_law_walks ⟨nx, rt, bk, ct⟩ (startU 4 [encB b, .tup (es.map encE)]) M := by
  unfold B_law_walks
  (repeat decreasing_trivial_pre_omega)
  refine forL_by (fun don rest σ M' => (∃ u at_, walkB b don = some at_ ∧ BW n at_ ∧ σ = [some (encB b), some (.tup (es.map encE)), some (encB at_), u]) ∧ M' = M) es ⟨⟨_, b, rfl, hb, rfl⟩, rfl⟩ ?_ ?_
  · intro don x rest σ M' k e ⟨⟨u, at_, ha, hw, e1⟩, e2⟩ hk
    subst e1 e2
    have hw2 := walkB_snoc b don x
    rw [ha, show (some at_).bind (fun b => stepB b x) = stepB at_ x from rfl] at hw2
    have bad : stepB at_ x = none → rt (.bl false) M' := fun h => by
      rw [h] at hw2
      have hf := walksM_cut (rest := rest) hw2
      rw [e] at hf
      rw [hf] at hq
      exact hq
    have hm : x ∈ es := by rw [← e]; simp
    cases hw <;> cases x <;> simp only [stepB] at hw2 <;> simp only [encB, encE] <;> (repeat decreasing_trivial_pre_omega) <;> try exact bad rfl
    · rename_i f c b hf hb g d
      refine i_ifd (fun h1 => ?_) (fun h1 => ?_)
      · (repeat decreasing_trivial_pre_omega)
        refine i_ifd (fun h2 => ?_) (fun h2 => ?_)
        · (repeat decreasing_trivial_pre_omega)
          refine hk _ _ trivial ⟨⟨_, b, ?_, hb, rfl⟩, rfl⟩
          rw [hw2, if_pos h1.symm, if_pos h2.symm]
        · (repeat decreasing_trivial_pre_omega)
          exact bad (by simp only [stepB]; rw [if_pos h1.symm, if_neg (fun z => h2 z.symm)])
      · (repeat decreasing_trivial_pre_omega)
        exact bad (if_neg fun z => h1 z.symm)
    · rename_i r b hr hb s
      refine i_ifd (fun h1 => ?_) (fun h1 => ?_)
      · (repeat decreasing_trivial_pre_omega)
        refine hk _ _ trivial ⟨⟨_, b, ?_, hb, rfl⟩, rfl⟩
        rw [hw2, if_pos h1.symm]
      · (repeat decreasing_trivial_pre_omega)
        exact bad (if_neg fun z => h1 z.symm)
    · rename_i f bs hf hl hbs g c
      refine i_ifd (fun h1 => ?_) (fun h1 => ?_)
      · (repeat decreasing_trivial_pre_omega)
        obtain ⟨h2, h3⟩ := he g c hm
        rw [← hl] at h3
        obtain ⟨b', hb', hx, hmem⟩ := atI_enc h2 h3 rfl
        refine x_tup hx ?_
        (repeat decreasing_trivial_pre_omega)
        refine hk _ _ trivial ⟨⟨_, b', ?_, hbs b' hmem, rfl⟩, rfl⟩
        rw [hw2, if_pos h1.symm, if_pos ⟨h2, h3⟩, hb']
      · (repeat decreasing_trivial_pre_omega)
        exact bad (if_neg fun z => h1 z.symm)
  · intro σ M' ⟨⟨u, at_, ha, _, e1⟩, e2⟩
    subst e1 e2
    unfold walksM at hq
    rw [ha] at hq
    cases at_ <;> simp only [encB] <;> (repeat decreasing_trivial_pre_omega) <;> exact hq
/-! asks -/
def asksM (es : List Ev) : List Str := es.foldl (fun l e => match e with | .ask r => if r ∈ l then l else l ++ [r] | _ => l) []
theorem asksM_snoc (es : List Ev) (e : Ev) : asksM (es ++ [e]) = match e with | .ask r => if r ∈ asksM es then asksM es else asksM es ++ [r] | _ => asksM es := by
  unfold asksM
  rw [List.foldl_append]
  rfl
theorem asksM_len (es : List Ev) : (asksM es).length ≤ es.length := by
  induction es using snocs with
  | h0 => exact Nat.le_refl _
  | h1 es e ih =>
    rw [asksM_snoc, List.length_append]
    cases e with
    | ask r =>
      simp only
      split
      · simp; omega
      · simp; omega
    | _ => simp; omega
theorem asksM_mem {es : List Ev} {r : Str} (h : r ∈ asksM es) : Ev.ask r ∈ es := by
  induction es using snocs with
  | h0 => cases h
  | h1 es e ih =>
    rw [asksM_snoc] at h
    cases e with
    | ask s =>
      simp only at h
      split at h
      · exact List.mem_append_left _ (ih h)
      · rcases List.mem_append.mp h with h | h
        · exact List.mem_append_left _ (ih h)
        · rw [List.mem_singleton] at h; subst h; exact List.mem_append_right _ (List.mem_singleton.mpr rfl)
    | _ => exact List.mem_append_left _ (ih h)
def asksU (es : List Ev) : U := .tup ((asksM es).map U.str)
def askD (es : List Ev) : List (U × U) := (asksM es).map fun r => (.str r, .bl true)
theorem askD_snoc (es : List Ev) (r : Str) : askD (es ++ [.ask r]) = dput (askD es) (.str r) (.bl true) := by
  unfold askD dput
  rw [asksM_snoc, dfind_isSome]
  have hm : ((.str r : U) ∈ ((asksM es).map fun r => ((.str r : U), (.bl true : U))).map (·.1)) ↔ r ∈ asksM es := by
    rw [List.map_map, List.mem_map]
    constructor
    · rintro ⟨s, hs, e⟩
      have e : U.str s = U.str r := e
      injection e with e
      rwa [← e]
    · intro h; exact ⟨r, h, rfl⟩
  by_cases h : r ∈ asksM es
  · rw [if_pos (decide_eq_true (hm.mpr h))]
    simp only [if_pos h]
    rw [List.map_map]
    refine List.map_congr_left fun s _ => ?_
    show _ = if U.str s = U.str r then (U.str s, U.bl true) else (U.str s, U.bl true)
    split <;> rfl
  · rw [if_neg (by simpa using fun z => h (hm.mp (by simpa using z)))]
    simp only [if_neg h]
    rw [List.map_append]
    rfl
theorem asks_ok {C : CE} {nx bk ct : SU → Hm → Prop} {rt : QU} {M : Hm} {es : List Ev} (hl : es.length < LIM) (hq : ∀ M', Sub M M' → rt (asksU es) M') : wS C B_asks_of ⟨nx, rt, bk, ct⟩ (startU 3 [.tup (es.map encE)]) M := by
  unfold B_asks_of
  (repeat decreasing_trivial_pre_omega)
  intro p hp
  (repeat decreasing_trivial_pre_omega)
  refine forL_by (fun don rest σ M' => (∃ u, σ = [some (.tup (es.map encE)), some (.ref p), u]) ∧ M' = um M p (.dct false false (askD don))) es ⟨⟨_, rfl⟩, rfl⟩ ?_ ?_
  · intro don x rest σ M' k e ⟨⟨u, e1⟩, e2⟩ hk
    subst e1 e2
    have hlen : (askD don).length < LIM := by
      have h1 := asksM_len don
      have h2 : don.length ≤ es.length := by rw [← e, List.length_append]; omega
      unfold askD
      rw [List.length_map]
      omega
    cases x with
    | ask r =>
      simp only [encE]
      (repeat decreasing_trivial_pre_omega)
      refine st_dct (t := false) (x := .str r) um_same rfl hlen ?_
      (repeat decreasing_trivial_pre_omega)
      exact hk _ _ trivial ⟨⟨_, rfl⟩, by rw [askD_snoc, um_um]⟩
    | _ =>
      simp only [encE]
      (repeat decreasing_trivial_pre_omega)
      exact hk _ _ trivial ⟨⟨_, rfl⟩, by unfold askD; rw [asksM_snoc]⟩
  · intro σ M' ⟨⟨u, e1⟩, e2⟩
    subst e1 e2
    (repeat decreasing_trivial_pre_omega)
    intro q hq0
    (repeat decreasing_trivial_pre_omega)
    have e : (askD es).map (·.1) = (asksM es).map U.str := by unfold askD; rw [List.map_map]; rfl
    rw [e] at *
    exact hq _ (sub_um (sub_um (Sub.refl _) hp) (um_none hq0))
theorem law_asks_ok {C : CE} {nx bk ct : SU → Hm → Prop} {rt : QU} {M : Hm} {es : List Ev} (ho : ∀ e ∈ es, e.ok) (hl : es.length < LIM) (hq : ∀ M', Sub M M' → rt (asksU es) M') : wS C B_law_asks ⟨nx, rt, bk, ct⟩ (startU 3 [.tup (es.map encE)]) M := by
  unfold B_law_asks
  (repeat decreasing_trivial_pre_omega)
  intro p hp
  (repeat decreasing_trivial_pre_omega)
  refine forL_by (fun don rest σ M' => (∃ u, σ = [some (.tup (es.map encE)), some (.ref p), u]) ∧ M' = um M p (.lst ((asksM don).map U.str))) es ⟨⟨_, rfl⟩, rfl⟩ ?_ ?_
  · intro don x rest σ M' k e ⟨⟨u, e1⟩, e2⟩ hk
    subst e1 e2
    have hlen : (asksM don).length < LIM := by
      have h1 := asksM_len don
      have h2 : don.length ≤ es.length := by rw [← e, List.length_append]; omega
      omega
    cases x with
    | ask r =>
      simp only [encE]
      (repeat decreasing_trivial_pre_omega)
      refine nin_lst um_same (ho (.ask r) (by rw [← e]; simp)) (okL_of fun x hx => ?_) ?_
      · rw [List.mem_map] at hx
        obtain ⟨s, hs, rfl⟩ := hx
        exact ho (.ask s) (by rw [← e]; exact List.mem_append_left _ (asksM_mem hs))
      have hm : ((.str r : U) ∈ (asksM don).map U.str) ↔ r ∈ asksM don := by
        rw [List.mem_map]
        constructor
        · rintro ⟨s, hs, e⟩
          injection e with e
          rwa [← e]
        · intro h; exact ⟨r, h, rfl⟩
      have hs := asksM_snoc don (.ask r)
      simp only at hs
      by_cases h : (.str r : U) ∈ (asksM don).map U.str
      · (repeat decreasing_trivial_pre_omega)
        refine hk _ _ trivial ⟨⟨_, rfl⟩, ?_⟩
        rw [hs, if_pos (hm.mp h)]
      · (repeat decreasing_trivial_pre_omega)
        refine m_app (us := (asksM don).map U.str) um_same (by rw [List.length_map]; exact hlen) ?_
        (repeat decreasing_trivial_pre_omega)
        refine hk _ _ trivial ⟨⟨_, rfl⟩, ?_⟩
        rw [hs, if_neg (fun z => h (hm.mpr z)), um_um]
        simp
    | _ =>
      simp only [encE]
      (repeat decreasing_trivial_pre_omega)
      exact hk _ _ trivial ⟨⟨_, rfl⟩, by rw [asksM_snoc]⟩
  · intro σ M' ⟨⟨u, e1⟩, e2⟩
    subst e1 e2
    (repeat decreasing_trivial_pre_omega)
    exact hq _ (sub_um (Sub.refl _) hp)
end Pl

set_option maxHeartbeats 400000
/-! bodies that are drawn -/
namespace Pl
open PySem L2
/-- _law_body: d, spec, asked, left, deep, k, file, content, at, pool, share, bodies -/
def B_law_body (law_body : Nat) (law_pick : Nat) (law_draw : Nat) : S := (.seq (.ifs (.ors (.cons (.cmp .lt (.var 3) (.int 2)) (.cons (.cmp .gt (.var 4) (.int 8)) .nil))) (.seq (.ret (.tup (.cons (.str "done") .nil))) .skip) .skip) (.seq (.asg 5 (.call law_draw (.cons (.var 0) (.cons (.int 9) .nil)))) (.seq (.ifs (.ands (.cons (.cmp .eq (.var 5) (.int 4)) (.cons (.cmp .gt (.var 4) (.int 0)) .nil))) (.seq (.ret (.tup (.cons (.str "done") .nil))) .skip) .skip) (.seq (.ifs (.ands (.cons (.cmp .lt (.var 5) (.int 3)) (.cons (.ix (.var 1) (.int 2)) .nil))) (.seq (.asg 6 (.call law_pick (.cons (.var 0) (.cons (.ix (.var 1) (.int 2)) .nil)))) (.seq (.asg 7 (.call law_draw (.cons (.var 0) (.cons (.ix (.var 1) (.int 0)) .nil)))) (.seq (.ret (.tup (.cons (.str "put") (.cons (.var 6) (.cons (.var 7) (.cons (.call law_body (.cons (.var 0) (.cons (.var 1) (.cons (.var 2) (.cons (.bin .sub (.var 3) (.int 1)) (.cons (.bin .add (.var 4) (.int 1)) .nil)))))) .nil)))))) .skip))) .skip) (.seq (.ifs (.ands (.cons (.cmp .lt (.var 5) (.int 6)) (.cons (.ix (.var 1) (.int 4)) .nil))) (.seq (.asg 8 (.call law_draw (.cons (.var 0) (.cons (.blt .len (.cons (.ix (.var 1) (.int 4)) .nil)) .nil)))) (.seq (.ret (.tup (.cons (.str "ask") (.cons (.ix (.ix (.var 1) (.int 4)) (.var 8)) (.cons (.call law_body (.cons (.var 0) (.cons (.var 1) (.cons (.bin .add (.var 2) (.lst (.cons (.var 8) .nil))) (.cons (.bin .sub (.var 3) (.int 1)) (.cons (.bin .add (.var 4) (.int 1)) .nil)))))) .nil))))) .skip)) .skip) (.seq (.asg 9 (.bin .add (.blt .list (.cons (.ix (.var 1) (.int 1)) .nil)) (.blt .list (.cons (.ix (.var 1) (.int 5)) .nil)))) (.seq (.for_ (.one 8) (.iSeq (.var 2)) (.seq (.expr (.mth .extend (.var 9) (.cons (.ix (.ix (.var 1) (.int 3)) (.var 8)) .nil))) .skip)) (.seq (.ifs (.not (.var 9)) (.seq (.ret (.tup (.cons (.str "done") .nil))) .skip) .skip) (.seq (.asg 6 (.call law_pick (.cons (.var 0) (.cons (.var 9) .nil)))) (.seq (.asg 10 (.bin .add (.bin .fdiv (.bin .sub (.var 3) (.int 1)) (.bin .add (.ix (.var 1) (.int 0)) (.int 1))) (.int 1))) (.seq (.asg 11 (.lst .nil)) (.seq (.for_ (.one 7) (.iRange (.bin .add (.ix (.var 1) (.int 0)) (.int 1))) (.seq (.expr (.mth .append (.var 11) (.cons (.call law_body (.cons (.var 0) (.cons (.var 1) (.cons (.var 2) (.cons (.var 10) (.cons (.bin .add (.var 4) (.int 1)) .nil)))))) .nil))) .skip)) (.seq (.ret (.tup (.cons (.str "see") (.cons (.var 6) (.cons (.blt .tuple (.cons (.var 11) .nil)) .nil))))) .skip)))))))))))))
/-- a body with as many branches as n, its puts, asks and sees as told, no path longer than the number -/
inductive BP (n : Nat) (pp : Str → Int → Prop) (pa ps : Str → Prop) : Nat → Bd → Prop where
  | done {k} : BP n pp pa ps k .done
  | put {k f c b} : pp f c → BP n pp pa ps k b → BP n pp pa ps (k + 1) (.put f c b)
  | ask {k r b} : pa r → BP n pp pa ps k b → BP n pp pa ps (k + 1) (.ask r b)
  | see {k f bs} : ps f → bs.length = n → (∀ b ∈ bs, BP n pp pa ps k b) → BP n pp pa ps (k + 1) (.see f bs)
def StrsAt (M : Hm) (p : Addr × Addr) (r : Addr) (P : Str → Prop) (l : List Str) : Prop := r ≠ p.1 ∧ l.length ≤ 100 ∧ (∀ x ∈ l, P x) ∧ M r = some (.lst (l.map U.str))
theorem StrsAt.fr {M M' : Hm} {p : Addr × Addr} {r : Addr} {P : Str → Prop} {l : List Str} (h : StrsAt M p r P l) (f : Fr p M M') : StrsAt M' p r P l := ⟨h.1, h.2.1, h.2.2.1, f.at_ h.1 h.2.2.2⟩
/-- what a body is drawn from -/
def SpecAt (M : Hm) (p : Addr × Addr) (s : Addr) (n : Nat) (pp pa ps : Str → Prop) : Prop := ∃ (X F A Y : List Str) (f g a y : Addr) (G : List Addr),
  s ≠ p.1 ∧ M s = some (.lst [.int n, .tup (X.map U.str), .ref f, .ref g, .ref a, .ref y]) ∧ X.length ≤ 100 ∧ (∀ x ∈ X, ps x) ∧ StrsAt M p f pp F ∧ StrsAt M p a pa A ∧ StrsAt M p y ps Y ∧
  g ≠ p.1 ∧ M g = some (.lst (G.map U.ref)) ∧ A.length ≤ G.length ∧ ∀ r ∈ G, ∃ l, StrsAt M p r ps l
theorem SpecAt.fr {M M' : Hm} {p : Addr × Addr} {s : Addr} {n : Nat} {pp pa ps : Str → Prop} (h : SpecAt M p s n pp pa ps) (fr : Fr p M M') : SpecAt M' p s n pp pa ps := by
  obtain ⟨X, F, A, Y, f, g, a, y, G, h1, h2, h3, h4, h5, h6, h7, h8, h9, h10, h11⟩ := h
  exact ⟨X, F, A, Y, f, g, a, y, G, h1, fr.at_ h1 h2, h3, h4, h5.fr fr, h6.fr fr, h7.fr fr, h8, fr.at_ h8 h9, h10, fun r hr => let ⟨l, hl⟩ := h11 r hr; ⟨l, hl.fr fr⟩⟩
/-- which places are asked for so far -/
def AskedAt (M : Hm) (p : Addr × Addr) (s q : Addr) (deep : Int) : Prop := ∃ (ats : List Nat) (v0 v1 v2 v4 v5 : U) (g : Addr) (G : List Addr), q ≠ p.1 ∧ M q = some (.lst (ats.map fun i => U.int (i : Nat))) ∧ ats.length ≤ deep ∧ M s = some (.lst [v0, v1, v2, .ref g, v4, v5]) ∧ M g = some (.lst (G.map U.ref)) ∧ s ≠ p.1 ∧ g ≠ p.1 ∧ ∀ i ∈ ats, i < G.length
theorem AskedAt.fr {M M' : Hm} {p : Addr × Addr} {s q : Addr} {deep : Int} (h : AskedAt M p s q deep) (fr : Fr p M M') : AskedAt M' p s q deep := by
  obtain ⟨ats, v0, v1, v2, v4, v5, g, G, h1, h2, h3, h4, h5, h6, h7, h8⟩ := h
  exact ⟨ats, v0, v1, v2, v4, v5, g, G, h1, fr.at_ h1 h2, h3, fr.at_ h6 h4, fr.at_ h7 h5, h6, h7, h8⟩
theorem AskedAt.up {M : Hm} {p : Addr × Addr} {s q : Addr} {deep : Int} (h : AskedAt M p s q deep) : AskedAt M p s q (deep + 1) := by
  obtain ⟨ats, v0, v1, v2, v4, v5, g, G, h1, h2, h3, h4, h5, h6, h7, h8⟩ := h
  exact ⟨ats, v0, v1, v2, v4, v5, g, G, h1, h2, by omega, h4, h5, h6, h7, h8⟩
def BodyC (C : CE) (f : Nat) (deep : Int) : Prop := ∀ (M : Hm) (p : Addr × Addr) (s q : Addr) (n : Nat) (pp pa ps : Str → Prop) (left : Int) (j : Nat) (Q : QU), deep + j = 9 → 0 < n → n < 100 → Dr M p → SpecAt M p s n pp pa ps → AskedAt M p s q deep →
  (∀ b M', BP (n + 1) (fun f c => pp f ∧ 0 ≤ c ∧ c < n) pa ps j b → Dr M' p → Fr p M M' → Q (encB b) M') → C f [.ref p.1, .ref s, .ref q, .int left, .int deep] M Q
theorem DrawC.lt {C : CE} {f : Nat} (h : DrawC C f) (M : Hm) (p : Addr × Addr) (many : Nat) (Q : QU) (d : Dr M p) (h0 : 0 < many) (h1 : many < 1073741824) (hq : ∀ (r : Nat) M', r < many → Dr M' p → Fr p M M' → Q (.int r) M') : C f [.ref p.1, .int many] M Q :=
  h M p many Q d (by omega) (by omega) fun r M' r0 r1 d' fr => by
    have e : r = ((r.toNat : Nat) : Int) := by omega
    rw [e]
    exact hq r.toNat M' (by omega) d' fr
theorem atI_nat {α : Type} {l : List α} {i : Nat} (h : i < l.length) : atI l (i : Int) = some l[i] := by
  unfold atI ixN
  rw [if_pos (by omega), if_pos (by omega)]
  show l[((i : Nat) : Int).toNat]? = _
  rw [Int.toNat_natCast]
  exact List.getElem?_eq_getElem h
theorem rngU_nat (n : Nat) : rngU 0 (n : Int) = (List.range n).map fun i => .int (i : Nat) := by
  unfold rngU
  rw [Int.sub_zero, Int.toNat_natCast]
  refine List.map_congr_left fun i _ => ?_
  rw [Int.zero_add]
theorem body_ok {C : CE} {fb fp fd : Nat} {deep : Int} (hd : DrawC C fd) (hp : PickC C fp) (hdeep : 0 ≤ deep) (hb : deep ≤ 8 → BodyC C fb (deep + 1)) {nx bk ct : SU → Hm → Prop} {rt : QU} {M : Hm} {p : Addr × Addr} {s q : Addr} {n : Nat} {pp pa ps : Str → Prop} {left : Int} {j : Nat} (hj : deep + j = 9) (hn0 : 0 < n) (hn : n < 100) (d : Dr M p) (hs : SpecAt M p s n pp pa ps) (ha : AskedAt M p s q deep)
    (hq : ∀ b M', BP (n + 1) (fun f c => pp f ∧ 0 ≤ c ∧ c < n) pa ps j b → Dr M' p → Fr p M M' → rt (encB b) M') :
    wS C (B_law_body fb fp fd) ⟨nx, rt, bk, ct⟩ (startU 12 [.ref p.1, .ref s, .ref q, .int left, .int deep]) M := by
  have donE : ∀ M', Dr M' p → Fr p M M' → rt (.tup [.str "done"]) M' := fun M' d' fr => hq .done M' .done d' fr
  unfold B_law_body
  (repeat decreasing_trivial_pre_omega)
  refine i_ifd (fun h1 => ?_) (fun h1 => ?_)
  · (repeat decreasing_trivial_pre_omega)
    exact donE M d (Fr.refl _ _)
  (repeat decreasing_trivial_pre_omega)
  refine i_ifd (fun h2 => ?_) (fun h2 => ?_)
  · (repeat decreasing_trivial_pre_omega)
    exact donE M d (Fr.refl _ _)
  have hb := hb (by omega)
  obtain ⟨j, rfl⟩ : ∃ i, j = i + 1 := ⟨j - 1, by omega⟩
  (repeat decreasing_trivial_pre_omega)
  refine hd.lt M p 9 _ d (by decide) (by decide) fun r M1 hr d1 fr1 => ?_
  have hs1 := hs.fr fr1
  have ha1 := ha.fr fr1
  obtain ⟨X, F, A, Y, f, g, a, y, G, s1, s2, s3, s4, s5, s6, s7, s8, s9, s10, s11⟩ := hs1
  obtain ⟨f1, f2, f3, f4⟩ := s5
  (repeat decreasing_trivial_pre_omega)
  apply rest_of
  · intro rest
    by_cases h3 : ((r : Nat) : Int) = 4
    · (repeat decreasing_trivial_pre_omega)
      by_cases h4 : 0 < deep
      · (repeat decreasing_trivial_pre_omega)
        exact donE M1 d1 fr1
      · (repeat decreasing_trivial_pre_omega)
        exact rest.out
    · (repeat decreasing_trivial_pre_omega)
      exact rest.out
  (repeat decreasing_trivial_pre_omega)
  apply rest_of
  · intro rest
    by_cases h3 : ((r : Nat) : Int) < 3
    · (repeat decreasing_trivial_pre_omega)
      by_cases h4 : F.map U.str = []
      · (repeat decreasing_trivial_pre_omega)
        exact rest.out
      · (repeat decreasing_trivial_pre_omega)
        refine hp _ _ _ (F.map U.str) _ d1 (.inr ⟨f, rfl, f1, f4⟩) h4 (by rw [List.length_map]; omega) fun x M2 hx d2 fr2 => ?_
        rw [List.mem_map] at hx
        obtain ⟨fl, hfl, rfl⟩ := hx
        have s2' := fr2.at_ s1 s2
        (repeat decreasing_trivial_pre_omega)
        refine hd.lt _ _ n _ d2 hn0 (by omega) fun c M3 hc d3 fr3 => ?_
        (repeat decreasing_trivial_pre_omega)
        refine hb _ _ _ _ n pp pa ps _ j _ (by omega) hn0 hn d3 (((hs.fr fr1).fr fr2).fr fr3) ?_ fun b M4 hb4 d4 fr4 => ?_
        · exact (((ha.fr fr1).fr fr2).fr fr3).up
        (repeat decreasing_trivial_pre_omega)
        have := hq (.put fl c b) M4 (.put ⟨f3 _ hfl, by omega, by omega⟩ hb4) d4 (((fr1.trans fr2).trans fr3).trans fr4)
        simpa only [encB] using this
    · (repeat decreasing_trivial_pre_omega)
      exact rest.out
  (repeat decreasing_trivial_pre_omega)
  obtain ⟨ats, v0, v1, v2, v4, v5, g', G', a1, a2, a3, a4, a5, a6, a7, a8⟩ := ha1
  have eg := s2.symm.trans a4
  simp only [Option.some.injEq, MO.lst.injEq, List.cons.injEq, U.ref.injEq] at eg
  simp only [and_true] at eg
  obtain ⟨rfl, rfl, rfl, rfl, rfl, rfl⟩ := eg
  have eG := s9.symm.trans a5
  simp only [Option.some.injEq, MO.lst.injEq] at eG
  obtain ⟨y1, y2, y3, y4⟩ := s7
  apply rest_of
  · intro rest
    by_cases h3 : ((r : Nat) : Int) < 6
    · (repeat decreasing_trivial_pre_omega)
      obtain ⟨b1, b2, b3, b4⟩ := s6
      by_cases h4 : A.map U.str = []
      · (repeat decreasing_trivial_pre_omega)
        exact rest.out
      · (repeat decreasing_trivial_pre_omega)
        rw [List.length_map]
        have hA : 0 < A.length := List.length_pos_iff.mpr fun z => h4 (by rw [z]; rfl)
        refine hd.lt _ _ _ _ d1 hA (by omega) fun i M2 hi d2 fr2 => ?_
        have s2' := fr2.at_ s1 s2
        have b4' := fr2.at_ b1 b4
        have a2' := fr2.at_ a1 a2
        (repeat decreasing_trivial_pre_omega)
        refine x_lst b4' (atI_nat (by rw [List.length_map]; exact hi)) ?_
        (repeat decreasing_trivial_pre_omega)
        intro q1 hq1
        refine o_addL (um_old a2' hq1) um_same (by simp [LIM]; omega) ?_
        intro q2 hq2
        (repeat decreasing_trivial_pre_omega)
        have sb : Sub M2 (um (um M2 q1 (.lst [.int (i : Nat)])) q2 (.lst ((ats.map fun i => U.int (i : Nat)) ++ [.int (i : Nat)]))) := sub_um (sub_um (Sub.refl _) hq1) (um_none hq2)
        have fr3 : Fr p M1 _ := fr2.trans (sb.fr (p := p))
        have nq2 : q2 ≠ p.1 := d2.ne (um_none hq2)
        refine hb _ _ _ _ n pp pa ps _ j _ (by omega) hn0 hn (d2.sub sb) ((hs.fr fr1).fr fr3) ⟨ats ++ [i], .int n, .tup (X.map U.str), .ref f, .ref a, .ref y, g, G, nq2, ?_, ?_, ?_, ?_, a6, a7, ?_⟩ fun b M4 hb4 d4 fr4 => ?_
        · rw [um_same, List.map_append]; rfl
        · simp; omega
        · exact sb _ _ s2'
        · exact sb _ _ (fr2.at_ a7 s9)
        · intro j hj
          rcases List.mem_append.mp hj with hj | hj
          · have := a8 j hj
            have e2 : G'.length = G.length := by have := congrArg List.length eG; simpa using this.symm
            omega
          · rw [List.mem_singleton] at hj
            omega
        (repeat decreasing_trivial_pre_omega)
        rw [List.getElem_map]
        have := hq (.ask A[i] b) M4 (.ask (b3 _ (List.getElem_mem hi)) hb4) d4 ((fr1.trans fr3).trans fr4)
        simpa only [encB] using this
    · (repeat decreasing_trivial_pre_omega)
      exact rest.out
  (repeat decreasing_trivial_pre_omega)
  intro x1 hx1
  (repeat decreasing_trivial_pre_omega)
  intro x2 hx2
  refine o_addL (um_old um_same hx2) um_same (by simp [LIM]; omega) ?_
  intro x3 hx3
  (repeat decreasing_trivial_pre_omega)
  have c1 := um_none hx2
  have c2 := um_none hx3
  have dB : Dr (um (um M1 x1 (.lst (X.map U.str))) x2 (.lst (Y.map U.str))) p := (d1.upd hx1).upd hx2
  have nx3 : x3 ≠ p.1 := dB.ne hx3
  have nx3' : x3 ≠ p.2 := dB.ne2 hx3
  have frB : Fr p M1 (um (um M1 x1 (.lst (X.map U.str))) x2 (.lst (Y.map U.str))) := (sub_um (sub_um (Sub.refl _) hx1) c1).fr
  generalize um (um M1 x1 (.lst (X.map U.str))) x2 (.lst (Y.map U.str)) = MB at hx3 c2 dB frB ⊢
  have G9 := frB.at_ s8 s9
  have S2 := frB.at_ s1 s2
  have A2 := frB.at_ a1 a2
  have elen : G'.length = G.length := by have := congrArg List.length eG; simpa using this.symm
  refine forL_by (enc := fun i : Nat => U.int (i : Nat)) (fun don rest σ M' => ∃ u8 pool, σ = [some (.ref p.1), some (.ref s), some (.ref q), some (.int left), some (.int deep), some (.int r), none, none, u8, some (.ref x3), none, none] ∧ M' = um MB x3 (.lst (pool.map U.str)) ∧ pool.length ≤ 200 + 100 * don.length ∧ ∀ x ∈ pool, ps x) ats ⟨_, X ++ Y, rfl, by rw [List.map_append], by simp; omega, fun x hx => by
    rcases List.mem_append.mp hx with hx | hx
    · exact s4 x hx
    · exact y3 x hx⟩ ?_ ?_
  · intro don i rest σ M' k e ⟨u8, pool, e1, e2, e3, e4⟩ hk
    subst e1 e2
    have hi : i < G.length := by have := a8 i (by rw [← e]; simp); omega
    obtain ⟨l, l1, l2, l3, l4⟩ := s11 G[i] (List.getElem_mem hi)
    have L4 := frB.at_ l1 l4
    (repeat decreasing_trivial_pre_omega)
    refine x_lst (um_old G9 hx3) (atI_nat (by rw [List.length_map]; exact hi)) ?_
    rw [List.getElem_map]
    (repeat decreasing_trivial_pre_omega)
    have hdl : don.length ≤ 9 := by
      have : don.length + rest.length + 1 = ats.length := by rw [← e]; simp; omega
      omega
    refine m_ext um_same (um_old L4 hx3) (by simp [LIM]; omega) ?_
    rw [um_um]
    (repeat decreasing_trivial_pre_omega)
    refine hk _ _ (um_old A2 hx3) ⟨_, pool ++ l, rfl, by rw [List.map_append], by simp; omega, fun x hx => ?_⟩
    rcases List.mem_append.mp hx with hx | hx
    · exact e4 x hx
    · exact l3 x hx
  intro σ M' ⟨u8, pool, e1, e2, e3', e4'⟩
  subst e1 e2
  (repeat decreasing_trivial_pre_omega)
  have dP : Dr (um MB x3 (.lst (pool.map U.str))) p := dB.upd2 nx3 nx3'
  have frP : Fr p M (um MB x3 (.lst (pool.map U.str))) := (fr1.trans frB).upd (fr1.non nx3 (frB.non nx3 hx3))
  have frP1 : Fr p M1 (um MB x3 (.lst (pool.map U.str))) := frB.upd (frB.non nx3 hx3)
  by_cases h5 : pool.map U.str = []
  · (repeat decreasing_trivial_pre_omega)
    exact donE _ dP frP
  (repeat decreasing_trivial_pre_omega)
  refine hp _ _ _ (pool.map U.str) _ dP (.inr ⟨x3, rfl, nx3, um_same⟩) h5 (by rw [List.length_map]; omega) fun x M2 hx d2 fr2 => ?_
  rw [List.mem_map] at hx
  obtain ⟨fl, hfl, rfl⟩ := hx
  have S2' := (frP1.trans fr2).at_ s1 s2
  have FR := frP.trans fr2
  (repeat decreasing_trivial_pre_omega)
  intro b0 hb0
  have nb := d2.ne hb0
  have nb' := d2.ne2 hb0
  have hMb : M b0 = none := FR.non nb hb0
  (repeat decreasing_trivial_pre_omega)
  refine ⟨by simp [LIM]; omega, by simp [LIM]; omega, ?_⟩
  rw [show ((n : Int) + 1) = ((n + 1 : Nat) : Int) by omega, rngU_nat]
  refine forL_by (enc := fun i : Nat => U.int (i : Nat)) (fun don rest σ M' => ∃ u7 bs, σ = [some (.ref p.1), some (.ref s), some (.ref q), some (.int left), some (.int deep), some (.int r), some (.str fl), u7, u8, some (.ref x3), some (.int ((left - 1) / ((n : Int) + 1) + 1)), some (.ref b0)] ∧ bs.length = don.length ∧ (∀ b ∈ bs, BP (n + 1) (fun f c => pp f ∧ 0 ≤ c ∧ c < n) pa ps j b) ∧ Dr M' p ∧ Fr p M M' ∧ M' b0 = some (.lst (bs.map encB))) (List.range (n + 1)) ⟨_, [], rfl, rfl, (by intro b hb; cases hb), d2.upd2 nb nb', FR.upd hMb, um_same⟩ ?_ ?_
  · intro don i rest σ M' k e ⟨u7, bs, e1, e2, e3, e4, e5, e6⟩ hk
    subst e1
    (repeat decreasing_trivial_pre_omega)
    refine hb _ _ _ _ n pp pa ps _ j _ (by omega) hn0 hn e4 (hs.fr e5) (ha.fr e5).up fun b M4 hb4 d4 fr4 => ?_
    have e6' := fr4.at_ nb e6
    have hlen : don.length < 101 := by
      have : don.length + rest.length + 1 = n + 1 := by rw [← List.length_range (n := n + 1), ← e]; simp; omega
      omega
    (repeat decreasing_trivial_pre_omega)
    refine m_app e6' (by simp [LIM]; omega) ?_
    (repeat decreasing_trivial_pre_omega)
    refine hk _ _ trivial ⟨_, bs ++ [b], rfl, by simp; omega, fun c hc => ?_, d4.upd2 nb nb', (e5.trans fr4).upd hMb, by rw [um_same, List.map_append]; rfl⟩
    rcases List.mem_append.mp hc with hc | hc
    · exact e3 c hc
    · rw [List.mem_singleton] at hc; subst hc; exact hb4
  intro σ M' ⟨u7, bs, e1, e2, e3, e4, e5, e6⟩
  subst e1
  (repeat decreasing_trivial_pre_omega)
  have := hq (.see fl bs) M' (.see (e4' _ hfl) (by rw [e2, List.length_range]) e3) e4 e5
  simp only [encB, encBs_map] at this
  exact this
end Pl

set_option maxHeartbeats 400000
/-! walks that are drawn -/
namespace Pl
open PySem L2
/-- _law_event: d, kinds, way -/
def B_law_event (law_draw : Nat) (law_pick : Nat) : S := (.seq (.asg 2 (.call law_draw (.cons (.var 0) (.cons (.int 3) .nil)))) (.seq (.ifs (.cmp .eq (.var 2) (.int 0)) (.seq (.ret (.tup (.cons (.str "ask") (.cons (.call law_pick (.cons (.var 0) (.cons (.lst (.cons (.str "r") (.cons (.str "q") (.cons (.str "p") .nil)))) .nil))) .nil)))) .skip) .skip) (.seq (.ifs (.cmp .eq (.var 2) (.int 1)) (.seq (.ret (.tup (.cons (.str "put") (.cons (.call law_pick (.cons (.var 0) (.cons (.lst (.cons (.str "x") (.cons (.str "y") (.cons (.str "z") (.cons (.str "r") .nil))))) .nil))) (.cons (.call law_draw (.cons (.var 0) (.cons (.var 1) .nil))) .nil))))) .skip) .skip) (.seq (.ret (.tup (.cons (.str "see") (.cons (.call law_pick (.cons (.var 0) (.cons (.lst (.cons (.str "x") (.cons (.str "y") (.cons (.str "a") (.cons (.str "r") .nil))))) .nil))) (.cons (.bin .sub (.call law_draw (.cons (.var 0) (.cons (.bin .add (.var 1) (.int 1)) .nil))) (.int 1)) .nil))))) .skip))))
/-- _law_walk: d, kinds, body, found, at, turn, content -/
def B_law_walk (law_draw : Nat) : S := (.seq (.asg 3 (.lst .nil)) (.seq (.asg 4 (.var 2)) (.seq (.for_ (.one 5) (.iRange (.int 20)) (.seq (.ifs (.cmp .eq (.ix (.var 4) (.int 0)) (.str "done")) (.seq .brk .skip) .skip) (.seq (.ifs (.cmp .eq (.ix (.var 4) (.int 0)) (.str "see")) (.seq (.asg 6 (.bin .sub (.call law_draw (.cons (.var 0) (.cons (.bin .add (.var 1) (.int 1)) .nil))) (.int 1))) (.seq (.expr (.mth .append (.var 3) (.cons (.tup (.cons (.str "see") (.cons (.ix (.var 4) (.int 1)) (.cons (.var 6) .nil)))) .nil))) (.seq (.asg 4 (.ix (.ix (.var 4) (.int 2)) (.bin .add (.var 6) (.int 1)))) .skip))) (.seq (.ifs (.cmp .eq (.ix (.var 4) (.int 0)) (.str "ask")) (.seq (.expr (.mth .append (.var 3) (.cons (.tup (.cons (.str "ask") (.cons (.ix (.var 4) (.int 1)) .nil))) .nil))) (.seq (.asg 4 (.ix (.var 4) (.int 2))) .skip)) (.seq (.expr (.mth .append (.var 3) (.cons (.tup (.cons (.str "put") (.cons (.ix (.var 4) (.int 1)) (.cons (.ix (.var 4) (.int 2)) .nil)))) .nil))) (.seq (.asg 4 (.ix (.var 4) (.int 3))) .skip))) .skip)) .skip))) (.seq (.ret (.var 3)) .skip))))
/-- _law_spoil: d, kinds, walk, row, at, way -/
def B_law_spoil (law_event : Nat) (law_draw : Nat) : S := (.seq (.asg 3 (.blt .list (.cons (.var 2) .nil))) (.seq (.asg 4 (.call law_draw (.cons (.var 0) (.cons (.bin .add (.blt .len (.cons (.var 3) .nil)) (.int 1)) .nil)))) (.seq (.asg 5 (.call law_draw (.cons (.var 0) (.cons (.int 4) .nil)))) (.seq (.ifs (.ands (.cons (.cmp .eq (.var 5) (.int 0)) (.cons (.cmp .lt (.var 4) (.blt .len (.cons (.var 3) .nil))) .nil))) (.seq (.ret (.bin .add (.slice (.var 3) .nil (.var 4)) (.slice (.var 3) (.bin .add (.var 4) (.int 1)) .nil))) .skip) .skip) (.seq (.ifs (.ands (.cons (.cmp .eq (.var 5) (.int 1)) (.cons (.cmp .lt (.var 4) (.blt .len (.cons (.var 3) .nil))) .nil))) (.seq (.ret (.bin .add (.bin .add (.slice (.var 3) .nil (.var 4)) (.lst (.cons (.ix (.var 3) (.var 4)) .nil))) (.slice (.var 3) (.var 4) .nil))) .skip) .skip) (.seq (.ifs (.cmp .eq (.var 5) (.int 2)) (.seq (.ret (.bin .add (.bin .add (.slice (.var 3) .nil (.var 4)) (.lst (.cons (.call law_event (.cons (.var 0) (.cons (.var 1) .nil))) .nil))) (.slice (.var 3) (.var 4) .nil))) .skip) .skip) (.seq (.ret (.bin .add (.bin .add (.slice (.var 3) .nil (.var 4)) (.lst (.cons (.call law_event (.cons (.var 0) (.cons (.var 1) .nil))) .nil))) (.slice (.var 3) (.bin .add (.var 4) (.int 1)) .nil))) .skip)))))))
theorem cutU_drop {α : Type} (l : List α) (n : Nat) : cutU l (some (n : Int)) none = l.drop n := by
  unfold cutU HT.sIx
  simp only
  rw [if_neg (by omega), Int.toNat_natCast]
  rcases Nat.le_total n l.length with h | h
  · rw [Nat.min_eq_left h]
    exact List.take_of_length_le (by rw [List.length_drop]; exact Nat.le_refl _)
  · rw [Nat.min_eq_right h, List.drop_length, List.drop_of_length_le h, List.take_nil]
/-- an event as laws draw it -/
def EvIn (n : Nat) (e : Ev) : Prop := e.ok ∧ ∀ f c, e = .see f c → 0 ≤ c + 1 ∧ c + 1 < ((n + 1 : Nat) : Int)
theorem event_ok {C : CE} {fd fp : Nat} (hd : DrawC C fd) (hp : PickC C fp) {nx bk ct : SU → Hm → Prop} {rt : QU} {M : Hm} {p : Addr × Addr} {n : Nat} (hn0 : 0 < n) (hn : n < 100) (d : Dr M p)
    (hq : ∀ e M', EvIn n e → Dr M' p → Fr p M M' → rt (encE e) M') : wS C (B_law_event fd fp) ⟨nx, rt, bk, ct⟩ (startU 3 [.ref p.1, .int n]) M := by
  unfold B_law_event
  (repeat decreasing_trivial_pre_omega)
  refine hd.lt M p 3 _ d (by decide) (by decide) fun r M1 hr d1 fr1 => ?_
  (repeat decreasing_trivial_pre_omega)
  by_cases h0 : ((r : Nat) : Int) = 0
  · (repeat decreasing_trivial_pre_omega)
    intro a ha
    (repeat decreasing_trivial_pre_omega)
    refine hp _ _ _ ((["r", "q", "p"] : List Str).map U.str) _ (d1.upd ha) (.inr ⟨a, rfl, d1.ne ha, um_same⟩) (by simp) (by simp) fun x M2 hx d2 fr2 => ?_
    rw [List.mem_map] at hx
    obtain ⟨x, hx, rfl⟩ := hx
    have ok : okS x = true := by revert x; decide +kernel
    (repeat decreasing_trivial_pre_omega)
    exact hq (.ask x) _ ⟨ok, by intro f c e; cases e⟩ d2 (fr1.trans ((Fr.upd (Fr.refl _ _) ha).trans fr2))
  (repeat decreasing_trivial_pre_omega)
  by_cases h1 : ((r : Nat) : Int) = 1
  · (repeat decreasing_trivial_pre_omega)
    intro a ha
    (repeat decreasing_trivial_pre_omega)
    refine hp _ _ _ ((["x", "y", "z", "r"] : List Str).map U.str) _ (d1.upd ha) (.inr ⟨a, rfl, d1.ne ha, um_same⟩) (by simp) (by simp) fun x M2 hx d2 fr2 => ?_
    rw [List.mem_map] at hx
    obtain ⟨x, hx, rfl⟩ := hx
    have ok : okS x = true := by revert x; decide +kernel
    (repeat decreasing_trivial_pre_omega)
    refine hd.lt _ p n _ d2 hn0 (by omega) fun c M3 hc d3 fr3 => ?_
    (repeat decreasing_trivial_pre_omega)
    exact hq (.put x c) _ ⟨ok, by intro f c e; cases e⟩ d3 ((fr1.trans ((Fr.upd (Fr.refl _ _) ha).trans fr2)).trans fr3)
  (repeat decreasing_trivial_pre_omega)
  intro a ha
  (repeat decreasing_trivial_pre_omega)
  refine hp _ _ _ ((["x", "y", "a", "r"] : List Str).map U.str) _ (d1.upd ha) (.inr ⟨a, rfl, d1.ne ha, um_same⟩) (by simp) (by simp) fun x M2 hx d2 fr2 => ?_
  rw [List.mem_map] at hx
  obtain ⟨x, hx, rfl⟩ := hx
  have ok : okS x = true := by revert x; decide +kernel
  (repeat decreasing_trivial_pre_omega)
  refine hd.lt _ p (n + 1) _ d2 (by omega) (by omega) fun c M3 hc d3 fr3 => ?_
  (repeat decreasing_trivial_pre_omega)
  exact hq (.see x (c - 1)) _ ⟨ok, by intro f c' e; injection e with e1 e2; omega⟩ d3 ((fr1.trans ((Fr.upd (Fr.refl _ _) ha).trans fr2)).trans fr3)
def EventC (C : CE) (f : Nat) : Prop := ∀ (M : Hm) (p : Addr × Addr) (n : Nat) (Q : QU), 0 < n → n < 100 → Dr M p → (∀ e M', EvIn n e → Dr M' p → Fr p M M' → Q (encE e) M') → C f [.ref p.1, .int n] M Q
theorem walk_ok {C : CE} {fd : Nat} (hd : DrawC C fd) {nx bk ct : SU → Hm → Prop} {rt : QU} {M : Hm} {p : Addr × Addr} {n j : Nat} {b : Bd} {pp : Str → Int → Prop} {pa ps : Str → Prop} (hpp : ∀ f c, pp f c → okS f = true) (hpa : ∀ f, pa f → okS f = true) (hps : ∀ f, ps f → okS f = true)
    (hn : n < 100) (hb : BP (n + 1) pp pa ps j b) (hj : j < 20) (d : Dr M p)
    (hq : ∀ (es : List Ev) (r : Addr) M', walkB b es = some .done → es.length < 20 → (∀ e ∈ es, EvIn n e) → Dr M' p → Fr p M M' → r ≠ p.1 → M' r = some (.lst (es.map encE)) → rt (.ref r) M') : wS C (B_law_walk fd) ⟨nx, rt, bk, ct⟩ (startU 7 [.ref p.1, .int n, encB b]) M := by
  unfold B_law_walk
  (repeat decreasing_trivial_pre_omega)
  intro x hx
  have nx1 := d.ne hx
  have nx2 := d.ne2 hx
  (repeat decreasing_trivial_pre_omega)
  refine ⟨by simp [LIM], by simp [LIM], ?_⟩
  rw [show (20 : Int) = ((20 : Nat) : Int) from rfl, rngU_nat]
  refine forL_by (enc := fun i : Nat => U.int (i : Nat)) (fun don rest σ M' => ∃ u5 u6 es k at_, σ = [some (.ref p.1), some (.int n), some (encB b), some (.ref x), some (encB at_), u5, u6] ∧ es.length = don.length ∧ walkB b es = some at_ ∧ BP (n + 1) pp pa ps k at_ ∧ k + es.length = j ∧ (∀ e ∈ es, EvIn n e) ∧ Dr M' p ∧ Fr p M M' ∧ M' x = some (.lst (es.map encE))) (List.range 20) ⟨_, _, [], j, b, rfl, rfl, rfl, hb, rfl, (by intro e he; cases he), d.upd hx, Fr.upd (Fr.refl _ _) hx, um_same⟩ ?_ ?_
  · intro don i rest σ M' k e ⟨u5, u6, es, k', at_, e1, e2, e3, e4, e5, e6, e7, e8, e9⟩ hk
    subst e1
    have hlen : don.length < 20 := by
      have : don.length + rest.length + 1 = 20 := by rw [← List.length_range (n := 20), ← e]; simp; omega
      omega
    have hl : (es.map encE).length < LIM := by rw [List.length_map]; unfold LIM; omega
    cases e4 with
    | done =>
      simp only [encB]
      (repeat decreasing_trivial_pre_omega)
      exact hq es x M' e3 (by omega) e6 e7 e8 nx1 e9
    | @put k2 f c b2 hf hb2 =>
      simp only [encB]
      (repeat decreasing_trivial_pre_omega)
      refine m_app e9 hl ?_
      (repeat decreasing_trivial_pre_omega)
      refine hk _ _ trivial ⟨_, _, es ++ [.put f c], k2, b2, rfl, by simp; omega, ?_, hb2, by simp; omega, ?_, e7.upd2 nx1 nx2, e8.upd hx, ?_⟩
      · rw [walkB_snoc, e3]; simp [stepB]
      · intro ev hev
        rcases List.mem_append.mp hev with hev | hev
        · exact e6 ev hev
        · rw [List.mem_singleton] at hev; subst hev
          exact ⟨hpp f c hf, by intro f c e; cases e⟩
      · rw [um_same, List.map_append]; rfl
    | @ask k2 f b2 hf hb2 =>
      simp only [encB]
      (repeat decreasing_trivial_pre_omega)
      refine m_app e9 hl ?_
      (repeat decreasing_trivial_pre_omega)
      refine hk _ _ trivial ⟨_, _, es ++ [.ask f], k2, b2, rfl, by simp; omega, ?_, hb2, by simp; omega, ?_, e7.upd2 nx1 nx2, e8.upd hx, ?_⟩
      · rw [walkB_snoc, e3]; simp [stepB]
      · intro ev hev
        rcases List.mem_append.mp hev with hev | hev
        · exact e6 ev hev
        · rw [List.mem_singleton] at hev; subst hev
          exact ⟨hpa f hf, by intro f c e; cases e⟩
      · rw [um_same, List.map_append]; rfl
    | @see k2 f bs hf hlb hbs =>
      simp only [encB]
      (repeat decreasing_trivial_pre_omega)
      refine hd.lt _ p (n + 1) _ e7 (by omega) (by omega) fun c M2 hc d2 fr2 => ?_
      have e9' := fr2.at_ nx1 e9
      (repeat decreasing_trivial_pre_omega)
      refine m_app e9' hl ?_
      (repeat decreasing_trivial_pre_omega)
      obtain ⟨b', hb', hx', hmem⟩ := atI_enc (bs := bs) (i := (c : Int) - 1 + 1) (by omega) (by rw [hlb]; omega) rfl
      refine x_tup hx' ?_
      (repeat decreasing_trivial_pre_omega)
      refine hk _ _ trivial ⟨_, _, es ++ [.see f ((c : Int) - 1)], k2, b', rfl, by simp; omega, ?_, hbs b' hmem, by simp; omega, ?_, d2.upd2 nx1 nx2, (e8.trans fr2).upd hx, ?_⟩
      · rw [walkB_snoc, e3]
        show stepB (.see f bs) (.see f ((c : Int) - 1)) = some b'
        simp only [stepB]
        rw [if_pos trivial, if_pos ⟨by omega, by rw [hlb]; omega⟩, hb']
      · intro ev hev
        rcases List.mem_append.mp hev with hev | hev
        · exact e6 ev hev
        · rw [List.mem_singleton] at hev; subst hev
          exact ⟨hps f hf, by intro f c e; injection e with q1 q2; omega⟩
      · rw [um_same, List.map_append]; rfl
  · intro σ M' ⟨u5, u6, es, k', at_, e1, e2, e3, e4, e5, e6, e7, e8, e9⟩
    rw [List.length_range] at e2
    omega
/-- a walk, bent -/
theorem spoil_ok {C : CE} {fe fd : Nat} (hd : DrawC C fd) (he : EventC C fe) {nx bk ct : SU → Hm → Prop} {rt : QU} {M : Hm} {p : Addr × Addr} {r : Addr} {n : Nat} {es : List Ev} (hn0 : 0 < n) (hn : n < 100) (d : Dr M p) (hr : r ≠ p.1) (hm : M r = some (.lst (es.map encE))) (hl : es.length < 20) (hes : ∀ e ∈ es, EvIn n e)
    (hq : ∀ (fs : List Ev) (q : Addr) M', (∀ e ∈ fs, EvIn n e) → Dr M' p → Fr p M M' → M' q = some (.lst (fs.map encE)) → rt (.ref q) M') : wS C (B_law_spoil fe fd) ⟨nx, rt, bk, ct⟩ (startU 6 [.ref p.1, .int n, .ref r]) M := by
  have hT : ∀ i e, e ∈ es.take i → EvIn n e := fun i e h => hes e (List.mem_of_mem_take h)
  have hD : ∀ i e, e ∈ es.drop i → EvIn n e := fun i e h => hes e (List.mem_of_mem_drop h)
  unfold B_law_spoil
  (repeat decreasing_trivial_pre_omega)
  intro x hx
  have dx := d.upd (o := .lst (es.map encE)) hx
  have nx1 := d.ne hx
  have nx2 := d.ne2 hx
  (repeat decreasing_trivial_pre_omega)
  rw [List.length_map]
  refine hd.lt _ p (es.length + 1) _ dx (by omega) (by omega) fun i M1 hi d1 fr1 => ?_
  (repeat decreasing_trivial_pre_omega)
  refine hd.lt _ p 4 _ d1 (by decide) (by decide) fun w M2 hw d2 fr2 => ?_
  have FR : Fr p M M2 := (Fr.upd (Fr.refl _ _) hx).trans (fr1.trans fr2)
  have e2 : M2 x = some (.lst (es.map encE)) := fr2.at_ nx1 (fr1.at_ nx1 um_same)
  (repeat decreasing_trivial_pre_omega)
  have hin : ∀ e ∈ es, EvIn n e := hes
  have i1 : ((i : Nat) : Int) + 1 = ((i + 1 : Nat) : Int) := by omega
  apply rest_of
  · intro rest
    by_cases h0 : ((w : Nat) : Int) = 0
    · (repeat decreasing_trivial_pre_omega)
      by_cases h1 : ((i : Nat) : Int) < (es.map encE).length
      · (repeat decreasing_trivial_pre_omega)
        intro a ha
        (repeat decreasing_trivial_pre_omega)
        intro b hb
        rw [cutU_take, i1, cutU_drop, ← List.map_take, ← List.map_drop] at *
        refine o_addL (um_old um_same hb) um_same (by simp [LIM]; omega) ?_
        intro c hc
        rw [← List.map_append]
        have sb : Sub M2 (um (um (um M2 a (.lst ((es.take i).map encE))) b (.lst ((es.drop (i + 1)).map encE))) c (.lst ((es.take i ++ es.drop (i + 1)).map encE))) := sub_new (sub_new (sub_new (Sub.refl M2) ha) hb) hc
        exact hq (es.take i ++ es.drop (i + 1)) _ _ (fun e he => (List.mem_append.mp he).elim (hT _ _) (hD _ _)) (d2.sub sb) (FR.trans sb.fr) um_same
      · (repeat decreasing_trivial_pre_omega)
        exact rest.out
    · (repeat decreasing_trivial_pre_omega)
      exact rest.out
  (repeat decreasing_trivial_pre_omega)
  apply rest_of
  · intro rest
    by_cases h0 : ((w : Nat) : Int) = 1
    · (repeat decreasing_trivial_pre_omega)
      by_cases h1 : ((i : Nat) : Int) < (es.map encE).length
      · (repeat decreasing_trivial_pre_omega)
        intro a ha
        have hi' : i < es.length := by rw [List.length_map] at h1; omega
        (repeat decreasing_trivial_pre_omega)
        refine x_lst (um_old e2 ha) (atI_nat (by rw [List.length_map]; exact hi')) ?_
        rw [List.getElem_map]
        (repeat decreasing_trivial_pre_omega)
        intro b hb
        rw [cutU_take, ← List.map_take] at *
        refine o_addL (um_old um_same hb) um_same (by simp [LIM]; omega) ?_
        intro c hc
        (repeat decreasing_trivial_pre_omega)
        intro a' ha'
        rw [cutU_drop, ← List.map_drop] at *
        refine o_addL (um_old um_same ha') um_same (by simp [LIM]; omega) ?_
        intro c' hc'
        have el : (es.take i).map encE ++ [encE es[i]] ++ (es.drop i).map encE = (es.take i ++ [es[i]] ++ es.drop i).map encE := by simp only [List.map_append, List.map_cons, List.map_nil]
        rw [el]
        refine hq (es.take i ++ [es[i]] ++ es.drop i) _ _ (fun e he => ?_) (d2.sub ?_) (FR.trans (Sub.fr ?_)) um_same
        · rcases List.mem_append.mp he with he | he
          · rcases List.mem_append.mp he with he | he
            · exact hT _ _ he
            · rw [List.mem_singleton] at he; subst he; exact hin _ (List.getElem_mem hi')
          · exact hD _ _ he
        all_goals exact sub_new (sub_new (sub_new (sub_new (sub_new (Sub.refl M2) ha) hb) hc) ha') hc'
      · (repeat decreasing_trivial_pre_omega)
        exact rest.out
    · (repeat decreasing_trivial_pre_omega)
      exact rest.out
  (repeat decreasing_trivial_pre_omega)
  apply rest_of
  · intro rest
    by_cases h0 : ((w : Nat) : Int) = 2
    · (repeat decreasing_trivial_pre_omega)
      intro a ha
      (repeat decreasing_trivial_pre_omega)
      refine he _ _ _ _ hn0 hn (d2.upd ha) fun ev M3 hev d3 fr3 => ?_
      have sa : Fr p M2 M3 := (Fr.upd (Fr.refl _ _) ha).trans fr3
      have ea := fr3.at_ (d2.ne ha) um_same
      have e3 := sa.at_ nx1 e2
      (repeat decreasing_trivial_pre_omega)
      intro b hb
      rw [cutU_take, ← List.map_take] at *
      refine o_addL (um_old ea hb) um_same (by simp [LIM]; omega) ?_
      intro c hc
      (repeat decreasing_trivial_pre_omega)
      intro a' ha'
      rw [cutU_drop, ← List.map_drop] at *
      refine o_addL (um_old um_same ha') um_same (by simp [LIM]; omega) ?_
      intro c' hc'
      have el : (es.take i).map encE ++ [encE ev] ++ (es.drop i).map encE = (es.take i ++ [ev] ++ es.drop i).map encE := by simp only [List.map_append, List.map_cons, List.map_nil]
      rw [el]
      refine hq (es.take i ++ [ev] ++ es.drop i) _ _ (fun e he => ?_) (d3.sub ?_) ((FR.trans sa).trans (Sub.fr ?_)) um_same
      · rcases List.mem_append.mp he with he | he
        · rcases List.mem_append.mp he with he | he
          · exact hT _ _ he
          · rw [List.mem_singleton] at he; subst he; exact hev
        · exact hD _ _ he
      all_goals exact sub_new (sub_new (sub_new (sub_new (Sub.refl M3) hb) hc) ha') hc'
    · (repeat decreasing_trivial_pre_omega)
      exact rest.out
  (repeat decreasing_trivial_pre_omega)
  intro a ha
  (repeat decreasing_trivial_pre_omega)
  refine he _ _ _ _ hn0 hn (d2.upd ha) fun ev M3 hev d3 fr3 => ?_
  have sa : Fr p M2 M3 := (Fr.upd (Fr.refl _ _) ha).trans fr3
  have ea := fr3.at_ (d2.ne ha) um_same
  have e3 := sa.at_ nx1 e2
  (repeat decreasing_trivial_pre_omega)
  intro b hb
  rw [cutU_take, ← List.map_take] at *
  refine o_addL (um_old ea hb) um_same (by simp [LIM]; omega) ?_
  intro c hc
  (repeat decreasing_trivial_pre_omega)
  intro a' ha'
  rw [i1, cutU_drop, ← List.map_drop] at *
  refine o_addL (um_old um_same ha') um_same (by simp [LIM]; omega) ?_
  intro c' hc'
  have el : (es.take i).map encE ++ [encE ev] ++ (es.drop (i + 1)).map encE = (es.take i ++ [ev] ++ es.drop (i + 1)).map encE := by simp only [List.map_append, List.map_cons, List.map_nil]
  rw [el]
  refine hq (es.take i ++ [ev] ++ es.drop (i + 1)) _ _ (fun e he => ?_) (d3.sub ?_) ((FR.trans sa).trans (Sub.fr ?_)) um_same
  · rcases List.mem_append.mp he with he | he
    · rcases List.mem_append.mp he with he | he
      · exact hT _ _ he
      · rw [List.mem_singleton] at he; subst he; exact hev
    · exact hD _ _ he
  all_goals exact sub_new (sub_new (sub_new (sub_new (Sub.refl M3) hb) hc) ha') hc'
end Pl

set_option maxHeartbeats 0
/-! the text's small syntax, its check, its head: printed by wip/gen.py -/
namespace K03
open PySem L2 Pl
/-- puts_before -/
def b0 : S := (.seq (.asg 2 (.dnew false)) (.seq (.for_ (.one 3) (.iSeq (.slice (.var 0) .nil (.var 1))) (.seq (.ifs (.cmp .eq (.ix (.var 3) (.int 0)) (.str "put")) (.seq (.setIx (.var 2) (.ix (.var 3) (.int 1)) (.ix (.var 3) (.int 2))) .skip) .skip) .skip)) (.seq (.ret (.var 2)) .skip)))
def d0 : Df := ⟨"puts_before", ["trace", "place"], ["trace", "place", "found", "event"], b0⟩
/-- lay_of -/
def b1 : S := (.seq (.asg 1 (.call 0 (.cons (.var 0) (.cons (.blt .len (.cons (.var 0) .nil)) .nil)))) (.seq (.ret (.blt .tuple (.cons (.comp [("file", 2)] (.one 2) (.iKeys (.var 1)) .nil (.tup (.cons (.var 2) (.cons (.ix (.var 1) (.var 2)) .nil)))) .nil))) .skip))
def d1 : Df := ⟨"lay_of", ["trace"], ["trace", "found", "file"], b1⟩
/-- asks_of -/
def b2 : S := (.seq (.asg 1 (.dnew false)) (.seq (.for_ (.one 2) (.iSeq (.var 0)) (.seq (.ifs (.cmp .eq (.ix (.var 2) (.int 0)) (.str "ask")) (.seq (.setIx (.var 1) (.ix (.var 2) (.int 1)) (.bl true)) .skip) .skip) .skip)) (.seq (.ret (.blt .tuple (.cons (.blt .list (.cons (.var 1) .nil)) .nil))) .skip)))
def d2 : Df := ⟨"asks_of", ["trace"], ["trace", "found", "event"], b2⟩
/-- path_step -/
def b3 : S := (.seq (.ifs (.ors (.cons (.not (.isinst (.var 1) "tuple")) (.cons (.cmp .eq (.blt .len (.cons (.var 1) .nil)) (.int 0)) (.cons (.cmp .ne (.ix (.var 0) (.int 0)) (.ix (.var 1) (.int 0))) .nil)))) (.seq (.ret .non) .skip) .skip) (.seq (.ifs (.cmp .eq (.ix (.var 0) (.int 0)) (.str "see")) (.seq (.ifs (.ors (.cons (.cmp .ne (.blt .len (.cons (.var 1) .nil)) (.int 3)) (.cons (.cmp .ne (.ix (.var 1) (.int 1)) (.ix (.var 0) (.int 1))) (.cons (.not (.isinst (.ix (.var 1) (.int 2)) "int")) .nil)))) (.seq (.ret .non) .skip) .skip) (.seq (.ifs (.ors (.cons (.isinst (.ix (.var 1) (.int 2)) "bool") (.cons (.not (.chain .le .lt (.int 0) (.bin .add (.ix (.var 1) (.int 2)) (.int 1)) (.blt .len (.cons (.ix (.var 0) (.int 2)) .nil)))) .nil))) (.seq (.ret .non) .skip) .skip) (.seq (.ret (.ix (.ix (.var 0) (.int 2)) (.bin .add (.ix (.var 1) (.int 2)) (.int 1)))) .skip))) .skip) (.seq (.ifs (.cmp .eq (.ix (.var 0) (.int 0)) (.str "ask")) (.seq (.ret (.ite (.ands (.cons (.cmp .eq (.blt .len (.cons (.var 1) .nil)) (.int 2)) (.cons (.cmp .eq (.ix (.var 1) (.int 1)) (.ix (.var 0) (.int 1))) .nil))) (.ix (.var 0) (.int 2)) .non)) .skip) .skip) (.seq (.ifs (.cmp .eq (.ix (.var 0) (.int 0)) (.str "put")) (.seq (.ifs (.ors (.cons (.cmp .ne (.blt .len (.cons (.var 1) .nil)) (.int 3)) (.cons (.isinst (.ix (.var 1) (.int 2)) "bool") .nil))) (.seq (.ret .non) .skip) .skip) (.seq (.ret (.ite (.ands (.cons (.cmp .eq (.ix (.var 1) (.int 1)) (.ix (.var 0) (.int 1))) (.cons (.cmp .eq (.ix (.var 1) (.int 2)) (.ix (.var 0) (.int 2))) .nil))) (.ix (.var 0) (.int 3)) .non)) .skip)) .skip) (.seq (.ret .non) .skip)))))
def d3 : Df := ⟨"path_step", ["body", "event"], ["body", "event"], b3⟩
/-- walks -/
def b4 : S := (.seq (.ifs (.not (.isinst (.var 1) "tuple")) (.seq (.ret (.bl false)) .skip) .skip) (.seq (.asg 2 (.var 0)) (.seq (.for_ (.one 3) (.iSeq (.var 1)) (.seq (.asg 2 (.call 3 (.cons (.var 2) (.cons (.var 3) .nil)))) (.seq (.ifs (.isN (.var 2)) (.seq (.ret (.bl false)) .skip) .skip) .skip))) (.seq (.ret (.cmp .eq (.ix (.var 2) (.int 0)) (.str "done"))) .skip))))
def d4 : Df := ⟨"walks", ["body", "trace"], ["body", "trace", "at", "event"], b4⟩
/-- _law_begin -/
def b5 : S := (.seq (.ret (.lst (.cons (.comp [("cell", 1)] (.one 1) (.iSeq (.var 0)) .nil (.blt .int (.cons (.var 1) .nil))) (.cons (.int 0) (.cons (.int 0) (.cons (.int 7) .nil)))))) .skip)
def d5 : Df := ⟨"_law_begin", ["script"], ["script", "cell"], b5⟩
/-- _law_draw -/
def b6 : S := (.seq (.ifs (.cmp .gt (.ix (.var 0) (.int 2)) (.int 0)) (.seq (.asg 2 (.ix (.var 0) (.int 2))) (.seq (.setIx (.var 0) (.int 2) (.bin .fdiv (.var 2) (.var 1))) (.seq (.ret (.bin .mod (.blt .int (.cons (.var 2) .nil)) (.var 1))) .skip))) .skip) (.seq (.asg 3 (.int 0)) (.seq (.ifs (.cmp .lt (.ix (.var 0) (.int 1)) (.blt .len (.cons (.ix (.var 0) (.int 0)) .nil))) (.seq (.asg 4 (.ix (.ix (.var 0) (.int 0)) (.ix (.var 0) (.int 1)))) (.seq (.asg 3 (.bin .add (.bin .mul (.int 2) (.blt .abs (.cons (.var 4) .nil))) (.blt .int (.cons (.cmp .lt (.var 4) (.int 0)) .nil)))) .skip)) .skip) (.seq (.augIx (.var 0) (.int 1) .add (.int 1)) (.seq (.ifs (.cmp .ge (.var 3) (.bin .mul (.int 2) (.bin .pow (.int 10) (.int 18)))) (.seq (.asg 2 (.bin .mod (.blt .int (.cons (.bin .fdiv (.var 3) (.int 2)) .nil)) (.bin .shl (.int 1) (.int 6000)))) (.seq (.setIx (.var 0) (.int 2) (.bin .fdiv (.var 2) (.var 1))) (.seq (.ret (.bin .mod (.blt .int (.cons (.var 2) .nil)) (.var 1))) .skip))) .skip) (.seq (.setIx (.var 0) (.int 3) (.bin .mod (.blt .int (.cons (.bin .add (.bin .add (.bin .add (.bin .mul (.ix (.var 0) (.int 3)) (.int 48271)) (.bin .mul (.bin .mod (.blt .int (.cons (.var 3) .nil)) (.int 2147483629)) (.int 16807))) (.bin .mul (.ix (.var 0) (.int 1)) (.int 69621))) (.int 11)) .nil)) (.int 2147483647))) (.seq (.ret (.bin .mod (.blt .int (.cons (.bin .fdiv (.ix (.var 0) (.int 3)) (.int 16)) .nil)) (.var 1))) .skip)))))))
def d6 : Df := ⟨"_law_draw", ["d", "many"], ["d", "many", "found", "size", "cell"], b6⟩
/-- _law_pick -/
def b7 : S := (.seq (.ret (.ix (.var 1) (.call 6 (.cons (.var 0) (.cons (.blt .len (.cons (.var 1) .nil)) .nil))))) .skip)
def d7 : Df := ⟨"_law_pick", ["d", "row"], ["d", "row"], b7⟩
/-- _law_body -/
def b8 : S := (.seq (.ifs (.ors (.cons (.cmp .lt (.var 3) (.int 2)) (.cons (.cmp .gt (.var 4) (.int 8)) .nil))) (.seq (.ret (.tup (.cons (.str "done") .nil))) .skip) .skip) (.seq (.asg 5 (.call 6 (.cons (.var 0) (.cons (.int 9) .nil)))) (.seq (.ifs (.ands (.cons (.cmp .eq (.var 5) (.int 4)) (.cons (.cmp .gt (.var 4) (.int 0)) .nil))) (.seq (.ret (.tup (.cons (.str "done") .nil))) .skip) .skip) (.seq (.ifs (.ands (.cons (.cmp .lt (.var 5) (.int 3)) (.cons (.ix (.var 1) (.int 2)) .nil))) (.seq (.asg 6 (.call 7 (.cons (.var 0) (.cons (.ix (.var 1) (.int 2)) .nil)))) (.seq (.asg 7 (.call 6 (.cons (.var 0) (.cons (.ix (.var 1) (.int 0)) .nil)))) (.seq (.ret (.tup (.cons (.str "put") (.cons (.var 6) (.cons (.var 7) (.cons (.call 8 (.cons (.var 0) (.cons (.var 1) (.cons (.var 2) (.cons (.bin .sub (.var 3) (.int 1)) (.cons (.bin .add (.var 4) (.int 1)) .nil)))))) .nil)))))) .skip))) .skip) (.seq (.ifs (.ands (.cons (.cmp .lt (.var 5) (.int 6)) (.cons (.ix (.var 1) (.int 4)) .nil))) (.seq (.asg 8 (.call 6 (.cons (.var 0) (.cons (.blt .len (.cons (.ix (.var 1) (.int 4)) .nil)) .nil)))) (.seq (.ret (.tup (.cons (.str "ask") (.cons (.ix (.ix (.var 1) (.int 4)) (.var 8)) (.cons (.call 8 (.cons (.var 0) (.cons (.var 1) (.cons (.bin .add (.var 2) (.lst (.cons (.var 8) .nil))) (.cons (.bin .sub (.var 3) (.int 1)) (.cons (.bin .add (.var 4) (.int 1)) .nil)))))) .nil))))) .skip)) .skip) (.seq (.asg 9 (.bin .add (.blt .list (.cons (.ix (.var 1) (.int 1)) .nil)) (.blt .list (.cons (.ix (.var 1) (.int 5)) .nil)))) (.seq (.for_ (.one 8) (.iSeq (.var 2)) (.seq (.expr (.mth .extend (.var 9) (.cons (.ix (.ix (.var 1) (.int 3)) (.var 8)) .nil))) .skip)) (.seq (.ifs (.not (.var 9)) (.seq (.ret (.tup (.cons (.str "done") .nil))) .skip) .skip) (.seq (.asg 6 (.call 7 (.cons (.var 0) (.cons (.var 9) .nil)))) (.seq (.asg 10 (.bin .add (.bin .fdiv (.bin .sub (.var 3) (.int 1)) (.bin .add (.ix (.var 1) (.int 0)) (.int 1))) (.int 1))) (.seq (.asg 11 (.lst .nil)) (.seq (.for_ (.one 7) (.iRange (.bin .add (.ix (.var 1) (.int 0)) (.int 1))) (.seq (.expr (.mth .append (.var 11) (.cons (.call 8 (.cons (.var 0) (.cons (.var 1) (.cons (.var 2) (.cons (.var 10) (.cons (.bin .add (.var 4) (.int 1)) .nil)))))) .nil))) .skip)) (.seq (.ret (.tup (.cons (.str "see") (.cons (.var 6) (.cons (.blt .tuple (.cons (.var 11) .nil)) .nil))))) .skip)))))))))))))
def d8 : Df := ⟨"_law_body", ["d", "spec", "asked", "left", "deep"], ["d", "spec", "asked", "left", "deep", "k", "file", "content", "at", "pool", "share", "bodies"], b8⟩
/-- _law_lay -/
def b9 : S := (.seq (.asg 1 (.lst .nil)) (.seq (.asg 2 (.dnew false)) (.seq (.for_ (.one 3) (.iSeq (.var 0)) (.seq (.ifs (.cmp .eq (.ix (.var 3) (.int 0)) (.str "put")) (.seq (.ifs (.cmp .notin (.ix (.var 3) (.int 1)) (.var 1)) (.seq (.expr (.mth .append (.var 1) (.cons (.ix (.var 3) (.int 1)) .nil))) .skip) .skip) (.seq (.setIx (.var 2) (.ix (.var 3) (.int 1)) (.ix (.var 3) (.int 2))) .skip)) .skip) .skip)) (.seq (.ret (.blt .tuple (.cons (.comp [("file", 4)] (.one 4) (.iSeq (.var 1)) .nil (.tup (.cons (.var 4) (.cons (.ix (.var 2) (.var 4)) .nil)))) .nil))) .skip))))
def d9 : Df := ⟨"_law_lay", ["trace"], ["trace", "files", "last", "event", "file"], b9⟩
/-- _law_asks -/
def b10 : S := (.seq (.asg 1 (.lst .nil)) (.seq (.for_ (.one 2) (.iSeq (.var 0)) (.seq (.ifs (.ands (.cons (.cmp .eq (.ix (.var 2) (.int 0)) (.str "ask")) (.cons (.cmp .notin (.ix (.var 2) (.int 1)) (.var 1)) .nil))) (.seq (.expr (.mth .append (.var 1) (.cons (.ix (.var 2) (.int 1)) .nil))) .skip) .skip) .skip)) (.seq (.ret (.blt .tuple (.cons (.var 1) .nil))) .skip)))
def d10 : Df := ⟨"_law_asks", ["trace"], ["trace", "found", "event"], b10⟩
/-- _law_walks -/
def b11 : S := (.seq (.asg 2 (.var 0)) (.seq (.for_ (.one 3) (.iSeq (.var 1)) (.seq (.ifs (.ors (.cons (.cmp .ne (.ix (.var 2) (.int 0)) (.ix (.var 3) (.int 0))) (.cons (.cmp .ne (.ix (.var 2) (.int 1)) (.ix (.var 3) (.int 1))) .nil))) (.seq (.ret (.bl false)) .skip) .skip) (.seq (.ifs (.cmp .eq (.ix (.var 2) (.int 0)) (.str "see")) (.seq (.asg 2 (.ix (.ix (.var 2) (.int 2)) (.bin .add (.ix (.var 3) (.int 2)) (.int 1)))) .skip) (.seq (.ifs (.cmp .eq (.ix (.var 2) (.int 0)) (.str "put")) (.seq (.ifs (.cmp .ne (.ix (.var 2) (.int 2)) (.ix (.var 3) (.int 2))) (.seq (.ret (.bl false)) .skip) .skip) (.seq (.asg 2 (.ix (.var 2) (.int 3))) .skip)) (.seq (.asg 2 (.ix (.var 2) (.int 2))) .skip)) .skip)) .skip))) (.seq (.ret (.cmp .eq (.ix (.var 2) (.int 0)) (.str "done"))) .skip)))
def d11 : Df := ⟨"_law_walks", ["body", "trace"], ["body", "trace", "at", "event"], b11⟩
/-- _law_event -/
def b12 : S := (.seq (.asg 2 (.call 6 (.cons (.var 0) (.cons (.int 3) .nil)))) (.seq (.ifs (.cmp .eq (.var 2) (.int 0)) (.seq (.ret (.tup (.cons (.str "ask") (.cons (.call 7 (.cons (.var 0) (.cons (.lst (.cons (.str "r") (.cons (.str "q") (.cons (.str "p") .nil)))) .nil))) .nil)))) .skip) .skip) (.seq (.ifs (.cmp .eq (.var 2) (.int 1)) (.seq (.ret (.tup (.cons (.str "put") (.cons (.call 7 (.cons (.var 0) (.cons (.lst (.cons (.str "x") (.cons (.str "y") (.cons (.str "z") (.cons (.str "r") .nil))))) .nil))) (.cons (.call 6 (.cons (.var 0) (.cons (.var 1) .nil))) .nil))))) .skip) .skip) (.seq (.ret (.tup (.cons (.str "see") (.cons (.call 7 (.cons (.var 0) (.cons (.lst (.cons (.str "x") (.cons (.str "y") (.cons (.str "a") (.cons (.str "r") .nil))))) .nil))) (.cons (.bin .sub (.call 6 (.cons (.var 0) (.cons (.bin .add (.var 1) (.int 1)) .nil))) (.int 1)) .nil))))) .skip))))
def d12 : Df := ⟨"_law_event", ["d", "kinds"], ["d", "kinds", "way"], b12⟩
/-- _law_walk -/
def b13 : S := (.seq (.asg 3 (.lst .nil)) (.seq (.asg 4 (.var 2)) (.seq (.for_ (.one 5) (.iRange (.int 20)) (.seq (.ifs (.cmp .eq (.ix (.var 4) (.int 0)) (.str "done")) (.seq .brk .skip) .skip) (.seq (.ifs (.cmp .eq (.ix (.var 4) (.int 0)) (.str "see")) (.seq (.asg 6 (.bin .sub (.call 6 (.cons (.var 0) (.cons (.bin .add (.var 1) (.int 1)) .nil))) (.int 1))) (.seq (.expr (.mth .append (.var 3) (.cons (.tup (.cons (.str "see") (.cons (.ix (.var 4) (.int 1)) (.cons (.var 6) .nil)))) .nil))) (.seq (.asg 4 (.ix (.ix (.var 4) (.int 2)) (.bin .add (.var 6) (.int 1)))) .skip))) (.seq (.ifs (.cmp .eq (.ix (.var 4) (.int 0)) (.str "ask")) (.seq (.expr (.mth .append (.var 3) (.cons (.tup (.cons (.str "ask") (.cons (.ix (.var 4) (.int 1)) .nil))) .nil))) (.seq (.asg 4 (.ix (.var 4) (.int 2))) .skip)) (.seq (.expr (.mth .append (.var 3) (.cons (.tup (.cons (.str "put") (.cons (.ix (.var 4) (.int 1)) (.cons (.ix (.var 4) (.int 2)) .nil)))) .nil))) (.seq (.asg 4 (.ix (.var 4) (.int 3))) .skip))) .skip)) .skip))) (.seq (.ret (.var 3)) .skip))))
def d13 : Df := ⟨"_law_walk", ["d", "kinds", "body"], ["d", "kinds", "body", "found", "at", "turn", "content"], b13⟩
/-- _law_spoil -/
def b14 : S := (.seq (.asg 3 (.blt .list (.cons (.var 2) .nil))) (.seq (.asg 4 (.call 6 (.cons (.var 0) (.cons (.bin .add (.blt .len (.cons (.var 3) .nil)) (.int 1)) .nil)))) (.seq (.asg 5 (.call 6 (.cons (.var 0) (.cons (.int 4) .nil)))) (.seq (.ifs (.ands (.cons (.cmp .eq (.var 5) (.int 0)) (.cons (.cmp .lt (.var 4) (.blt .len (.cons (.var 3) .nil))) .nil))) (.seq (.ret (.bin .add (.slice (.var 3) .nil (.var 4)) (.slice (.var 3) (.bin .add (.var 4) (.int 1)) .nil))) .skip) .skip) (.seq (.ifs (.ands (.cons (.cmp .eq (.var 5) (.int 1)) (.cons (.cmp .lt (.var 4) (.blt .len (.cons (.var 3) .nil))) .nil))) (.seq (.ret (.bin .add (.bin .add (.slice (.var 3) .nil (.var 4)) (.lst (.cons (.ix (.var 3) (.var 4)) .nil))) (.slice (.var 3) (.var 4) .nil))) .skip) .skip) (.seq (.ifs (.cmp .eq (.var 5) (.int 2)) (.seq (.ret (.bin .add (.bin .add (.slice (.var 3) .nil (.var 4)) (.lst (.cons (.call 12 (.cons (.var 0) (.cons (.var 1) .nil))) .nil))) (.slice (.var 3) (.var 4) .nil))) .skip) .skip) (.seq (.ret (.bin .add (.bin .add (.slice (.var 3) .nil (.var 4)) (.lst (.cons (.call 12 (.cons (.var 0) (.cons (.var 1) .nil))) .nil))) (.slice (.var 3) (.bin .add (.var 4) (.int 1)) .nil))) .skip)))))))
def d14 : Df := ⟨"_law_spoil", ["d", "kinds", "walk"], ["d", "kinds", "walk", "row", "at", "way"], b14⟩
/-- law -/
def b15 : S := (.seq (.asg 1 (.call 5 (.cons (.var 0) .nil))) (.seq (.asg 2 (.bin .add (.int 1) (.call 6 (.cons (.var 1) (.cons (.int 4) .nil))))) (.seq (.asg 3 (.blt .tuple (.cons (.comp [("k", 4)] (.one 4) (.iRange (.call 6 (.cons (.var 1) (.cons (.int 13) .nil)))) .nil (.call 12 (.cons (.var 1) (.cons (.var 2) .nil)))) .nil))) (.seq (.ifs (.ors (.cons (.cmp .ne (.call 1 (.cons (.var 3) .nil)) (.call 9 (.cons (.var 3) .nil))) (.cons (.cmp .ne (.call 2 (.cons (.var 3) .nil)) (.call 10 (.cons (.var 3) .nil))) .nil))) (.seq (.ret (.bl false)) .skip) .skip) (.seq (.ifs (.ors (.cons (.not (.isinst (.call 1 (.cons (.var 3) .nil)) "tuple")) (.cons (.not (.isinst (.call 2 (.cons (.var 3) .nil)) "tuple")) .nil))) (.seq (.ret (.bl false)) .skip) .skip) (.seq (.asg 5 (.lst (.cons (.var 2) (.cons (.tup (.cons (.str "a") .nil)) (.cons (.lst (.cons (.str "x") (.cons (.str "y") .nil))) (.cons (.lst (.cons (.lst (.cons (.str "x") .nil)) (.cons (.lst (.cons (.str "z") .nil)) .nil))) (.cons (.lst (.cons (.str "q") (.cons (.str "p") .nil))) (.cons (.lst (.cons (.str "y") .nil)) .nil)))))))) (.seq (.asg 6 (.call 8 (.cons (.var 1) (.cons (.var 5) (.cons (.lst .nil) (.cons (.int 14) (.cons (.int 0) .nil))))))) (.seq (.for_ (.one 7) (.iRange (.int 3)) (.seq (.asg 8 (.call 13 (.cons (.var 1) (.cons (.var 2) (.cons (.var 6) .nil))))) (.seq (.ifs (.isB true true (.call 4 (.cons (.var 6) (.cons (.blt .tuple (.cons (.var 8) .nil)) .nil)))) (.seq (.ret (.bl false)) .skip) .skip) (.seq (.ifs (.cmp .ne (.call 1 (.cons (.blt .tuple (.cons (.var 8) .nil)) .nil)) (.call 9 (.cons (.var 8) .nil))) (.seq (.ret (.bl false)) .skip) .skip) (.seq (.asg 9 (.blt .tuple (.cons (.call 14 (.cons (.var 1) (.cons (.var 2) (.cons (.var 8) .nil)))) .nil))) (.seq (.asg 10 (.call 4 (.cons (.var 6) (.cons (.var 9) .nil)))) (.seq (.ifs (.ors (.cons (.not (.isinst (.var 10) "bool")) (.cons (.cmp .ne (.var 10) (.call 11 (.cons (.var 6) (.cons (.var 9) .nil)))) .nil))) (.seq (.ret (.bl false)) .skip) .skip) .skip))))))) (.seq (.ret (.ands (.cons (.isB false true (.call 4 (.cons (.tup (.cons (.str "done") .nil)) (.cons (.tup .nil) .nil)))) (.cons (.isB false false (.call 4 (.cons (.tup (.cons (.str "put") (.cons (.str "x") (.cons (.int 0) (.cons (.tup (.cons (.str "done") .nil)) .nil))))) (.cons (.tup .nil) .nil)))) .nil)))) .skip)))))))))
def d15 : Df := ⟨"law", ["script"], ["script", "d", "kinds", "trace", "k", "spec", "body", "turn", "walk", "bent", "told"], b15⟩
def T : List Df := [d0, d1, d2, d3, d4, d5, d6, d7, d8, d9, d10, d11, d12, d13, d14, d15]
def top (i : Nat) : Stmt := PySem.Challenge.pw_holdstill_k03_traces_read.main.body.getD i (.Pass ⟨0, 0, 0, 0⟩)
def sts : List Stmt := [top 1, top 2, top 3, top 4, top 5, top 7, top 8, top 9, top 10, top 11, top 12, top 13, top 14, top 15, top 16, top 17]
theorem ck0 : (nameOf (top 1) = d0.name) ∧ ckF T d0 (top 1) = true := by decide +kernel
theorem bd0 : BindP d0.name (top 1) d0.ps := fun _ _ _ _ _ _ us hl => match us, hl with | [_, _], _ => rfl
theorem ck1 : (nameOf (top 2) = d1.name) ∧ ckF T d1 (top 2) = true := by decide +kernel
theorem bd1 : BindP d1.name (top 2) d1.ps := fun _ _ _ _ _ _ us hl => match us, hl with | [_], _ => rfl
theorem ck2 : (nameOf (top 3) = d2.name) ∧ ckF T d2 (top 3) = true := by decide +kernel
theorem bd2 : BindP d2.name (top 3) d2.ps := fun _ _ _ _ _ _ us hl => match us, hl with | [_], _ => rfl
theorem ck3 : (nameOf (top 4) = d3.name) ∧ ckF T d3 (top 4) = true := by decide +kernel
theorem bd3 : BindP d3.name (top 4) d3.ps := fun _ _ _ _ _ _ us hl => match us, hl with | [_, _], _ => rfl
theorem ck4 : (nameOf (top 5) = d4.name) ∧ ckF T d4 (top 5) = true := by decide +kernel
theorem bd4 : BindP d4.name (top 5) d4.ps := fun _ _ _ _ _ _ us hl => match us, hl with | [_, _], _ => rfl
theorem ck5 : (nameOf (top 7) = d5.name) ∧ ckF T d5 (top 7) = true := by decide +kernel
theorem bd5 : BindP d5.name (top 7) d5.ps := fun _ _ _ _ _ _ us hl => match us, hl with | [_], _ => rfl
theorem ck6 : (nameOf (top 8) = d6.name) ∧ ckF T d6 (top 8) = true := by decide +kernel
theorem bd6 : BindP d6.name (top 8) d6.ps := fun _ _ _ _ _ _ us hl => match us, hl with | [_, _], _ => rfl
theorem ck7 : (nameOf (top 9) = d7.name) ∧ ckF T d7 (top 9) = true := by decide +kernel
theorem bd7 : BindP d7.name (top 9) d7.ps := fun _ _ _ _ _ _ us hl => match us, hl with | [_, _], _ => rfl
theorem ck8 : (nameOf (top 10) = d8.name) ∧ ckF T d8 (top 10) = true := by decide +kernel
theorem bd8 : BindP d8.name (top 10) d8.ps := fun _ _ _ _ _ _ us hl => match us, hl with | [_, _, _, _, _], _ => rfl
theorem ck9 : (nameOf (top 11) = d9.name) ∧ ckF T d9 (top 11) = true := by decide +kernel
theorem bd9 : BindP d9.name (top 11) d9.ps := fun _ _ _ _ _ _ us hl => match us, hl with | [_], _ => rfl
theorem ck10 : (nameOf (top 12) = d10.name) ∧ ckF T d10 (top 12) = true := by decide +kernel
theorem bd10 : BindP d10.name (top 12) d10.ps := fun _ _ _ _ _ _ us hl => match us, hl with | [_], _ => rfl
theorem ck11 : (nameOf (top 13) = d11.name) ∧ ckF T d11 (top 13) = true := by decide +kernel
theorem bd11 : BindP d11.name (top 13) d11.ps := fun _ _ _ _ _ _ us hl => match us, hl with | [_, _], _ => rfl
theorem ck12 : (nameOf (top 14) = d12.name) ∧ ckF T d12 (top 14) = true := by decide +kernel
theorem bd12 : BindP d12.name (top 14) d12.ps := fun _ _ _ _ _ _ us hl => match us, hl with | [_, _], _ => rfl
theorem ck13 : (nameOf (top 15) = d13.name) ∧ ckF T d13 (top 15) = true := by decide +kernel
theorem bd13 : BindP d13.name (top 15) d13.ps := fun _ _ _ _ _ _ us hl => match us, hl with | [_, _, _], _ => rfl
theorem ck14 : (nameOf (top 16) = d14.name) ∧ ckF T d14 (top 16) = true := by decide +kernel
theorem bd14 : BindP d14.name (top 16) d14.ps := fun _ _ _ _ _ _ us hl => match us, hl with | [_, _, _], _ => rfl
theorem ck15 : (nameOf (top 17) = d15.name) ∧ ckF T d15 (top 17) = true := by decide +kernel
theorem bd15 : BindP d15.name (top 17) d15.ps := fun _ _ _ _ _ _ us hl => match us, hl with | [_], _ => rfl
theorem ck : ckT T sts = true := by
  unfold ckT
  rw [Bool.and_eq_true]
  refine ⟨by decide, ?_⟩
  show (List.zip [d0, d1, d2, d3, d4, d5, d6, d7, d8, d9, d10, d11, d12, d13, d14, d15] [top 1, top 2, top 3, top 4, top 5, top 7, top 8, top 9, top 10, top 11, top 12, top 13, top 14, top 15, top 16, top 17]).all _ = true
  simp only [List.zip_cons_cons, List.zip_nil_right, List.all_cons, List.all_nil, Bool.and_true, Bool.and_eq_true, decide_eq_true_eq]
  exact ⟨⟨ck0.1, ck0.2⟩, ⟨ck1.1, ck1.2⟩, ⟨ck2.1, ck2.2⟩, ⟨ck3.1, ck3.2⟩, ⟨ck4.1, ck4.2⟩, ⟨ck5.1, ck5.2⟩, ⟨ck6.1, ck6.2⟩, ⟨ck7.1, ck7.2⟩, ⟨ck8.1, ck8.2⟩, ⟨ck9.1, ck9.2⟩, ⟨ck10.1, ck10.2⟩, ⟨ck11.1, ck11.2⟩, ⟨ck12.1, ck12.2⟩, ⟨ck13.1, ck13.2⟩, ⟨ck14.1, ck14.2⟩, ⟨ck15.1, ck15.2⟩⟩
theorem bd : ∀ (i : Nat) (d : Df) (st : Stmt), T[i]? = some d → sts[i]? = some st → BindP d.name st d.ps := fun i d st h1 h2 => by
  match i, h1, h2 with
  | 0, h1, h2 => exact by cases h1; cases h2; exact bd0
  | 1, h1, h2 => exact by cases h1; cases h2; exact bd1
  | 2, h1, h2 => exact by cases h1; cases h2; exact bd2
  | 3, h1, h2 => exact by cases h1; cases h2; exact bd3
  | 4, h1, h2 => exact by cases h1; cases h2; exact bd4
  | 5, h1, h2 => exact by cases h1; cases h2; exact bd5
  | 6, h1, h2 => exact by cases h1; cases h2; exact bd6
  | 7, h1, h2 => exact by cases h1; cases h2; exact bd7
  | 8, h1, h2 => exact by cases h1; cases h2; exact bd8
  | 9, h1, h2 => exact by cases h1; cases h2; exact bd9
  | 10, h1, h2 => exact by cases h1; cases h2; exact bd10
  | 11, h1, h2 => exact by cases h1; cases h2; exact bd11
  | 12, h1, h2 => exact by cases h1; cases h2; exact bd12
  | 13, h1, h2 => exact by cases h1; cases h2; exact bd13
  | 14, h1, h2 => exact by cases h1; cases h2; exact bd14
  | 15, h1, h2 => exact by cases h1; cases h2; exact bd15
  | i + 16, h1, _ => cases h1
theorem cs0 {k : Nat} {us : List U} {M : Hm} {Q : QU} (hl : us.length = 2) (h : wS (Cs T k) b0 ⟨fun _ M1 => ∃ M2, Sub M2 M1 ∧ Q .non M2, fun u M1 => ∃ M2, Sub M2 M1 ∧ Q u M2, fun _ _ => False, fun _ _ => False⟩ (startU 4 us) M) : Cs T (k + 1) 0 us M Q := ⟨d0, rfl, hl, h⟩
theorem cs1 {k : Nat} {us : List U} {M : Hm} {Q : QU} (hl : us.length = 1) (h : wS (Cs T k) b1 ⟨fun _ M1 => ∃ M2, Sub M2 M1 ∧ Q .non M2, fun u M1 => ∃ M2, Sub M2 M1 ∧ Q u M2, fun _ _ => False, fun _ _ => False⟩ (startU 3 us) M) : Cs T (k + 1) 1 us M Q := ⟨d1, rfl, hl, h⟩
theorem cs2 {k : Nat} {us : List U} {M : Hm} {Q : QU} (hl : us.length = 1) (h : wS (Cs T k) b2 ⟨fun _ M1 => ∃ M2, Sub M2 M1 ∧ Q .non M2, fun u M1 => ∃ M2, Sub M2 M1 ∧ Q u M2, fun _ _ => False, fun _ _ => False⟩ (startU 3 us) M) : Cs T (k + 1) 2 us M Q := ⟨d2, rfl, hl, h⟩
theorem cs3 {k : Nat} {us : List U} {M : Hm} {Q : QU} (hl : us.length = 2) (h : wS (Cs T k) b3 ⟨fun _ M1 => ∃ M2, Sub M2 M1 ∧ Q .non M2, fun u M1 => ∃ M2, Sub M2 M1 ∧ Q u M2, fun _ _ => False, fun _ _ => False⟩ (startU 2 us) M) : Cs T (k + 1) 3 us M Q := ⟨d3, rfl, hl, h⟩
theorem cs4 {k : Nat} {us : List U} {M : Hm} {Q : QU} (hl : us.length = 2) (h : wS (Cs T k) b4 ⟨fun _ M1 => ∃ M2, Sub M2 M1 ∧ Q .non M2, fun u M1 => ∃ M2, Sub M2 M1 ∧ Q u M2, fun _ _ => False, fun _ _ => False⟩ (startU 4 us) M) : Cs T (k + 1) 4 us M Q := ⟨d4, rfl, hl, h⟩
theorem cs5 {k : Nat} {us : List U} {M : Hm} {Q : QU} (hl : us.length = 1) (h : wS (Cs T k) b5 ⟨fun _ M1 => ∃ M2, Sub M2 M1 ∧ Q .non M2, fun u M1 => ∃ M2, Sub M2 M1 ∧ Q u M2, fun _ _ => False, fun _ _ => False⟩ (startU 2 us) M) : Cs T (k + 1) 5 us M Q := ⟨d5, rfl, hl, h⟩
theorem cs6 {k : Nat} {us : List U} {M : Hm} {Q : QU} (hl : us.length = 2) (h : wS (Cs T k) b6 ⟨fun _ M1 => ∃ M2, Sub M2 M1 ∧ Q .non M2, fun u M1 => ∃ M2, Sub M2 M1 ∧ Q u M2, fun _ _ => False, fun _ _ => False⟩ (startU 5 us) M) : Cs T (k + 1) 6 us M Q := ⟨d6, rfl, hl, h⟩
theorem cs7 {k : Nat} {us : List U} {M : Hm} {Q : QU} (hl : us.length = 2) (h : wS (Cs T k) b7 ⟨fun _ M1 => ∃ M2, Sub M2 M1 ∧ Q .non M2, fun u M1 => ∃ M2, Sub M2 M1 ∧ Q u M2, fun _ _ => False, fun _ _ => False⟩ (startU 2 us) M) : Cs T (k + 1) 7 us M Q := ⟨d7, rfl, hl, h⟩
theorem cs8 {k : Nat} {us : List U} {M : Hm} {Q : QU} (hl : us.length = 5) (h : wS (Cs T k) b8 ⟨fun _ M1 => ∃ M2, Sub M2 M1 ∧ Q .non M2, fun u M1 => ∃ M2, Sub M2 M1 ∧ Q u M2, fun _ _ => False, fun _ _ => False⟩ (startU 12 us) M) : Cs T (k + 1) 8 us M Q := ⟨d8, rfl, hl, h⟩
theorem cs9 {k : Nat} {us : List U} {M : Hm} {Q : QU} (hl : us.length = 1) (h : wS (Cs T k) b9 ⟨fun _ M1 => ∃ M2, Sub M2 M1 ∧ Q .non M2, fun u M1 => ∃ M2, Sub M2 M1 ∧ Q u M2, fun _ _ => False, fun _ _ => False⟩ (startU 5 us) M) : Cs T (k + 1) 9 us M Q := ⟨d9, rfl, hl, h⟩
theorem cs10 {k : Nat} {us : List U} {M : Hm} {Q : QU} (hl : us.length = 1) (h : wS (Cs T k) b10 ⟨fun _ M1 => ∃ M2, Sub M2 M1 ∧ Q .non M2, fun u M1 => ∃ M2, Sub M2 M1 ∧ Q u M2, fun _ _ => False, fun _ _ => False⟩ (startU 3 us) M) : Cs T (k + 1) 10 us M Q := ⟨d10, rfl, hl, h⟩
theorem cs11 {k : Nat} {us : List U} {M : Hm} {Q : QU} (hl : us.length = 2) (h : wS (Cs T k) b11 ⟨fun _ M1 => ∃ M2, Sub M2 M1 ∧ Q .non M2, fun u M1 => ∃ M2, Sub M2 M1 ∧ Q u M2, fun _ _ => False, fun _ _ => False⟩ (startU 4 us) M) : Cs T (k + 1) 11 us M Q := ⟨d11, rfl, hl, h⟩
theorem cs12 {k : Nat} {us : List U} {M : Hm} {Q : QU} (hl : us.length = 2) (h : wS (Cs T k) b12 ⟨fun _ M1 => ∃ M2, Sub M2 M1 ∧ Q .non M2, fun u M1 => ∃ M2, Sub M2 M1 ∧ Q u M2, fun _ _ => False, fun _ _ => False⟩ (startU 3 us) M) : Cs T (k + 1) 12 us M Q := ⟨d12, rfl, hl, h⟩
theorem cs13 {k : Nat} {us : List U} {M : Hm} {Q : QU} (hl : us.length = 3) (h : wS (Cs T k) b13 ⟨fun _ M1 => ∃ M2, Sub M2 M1 ∧ Q .non M2, fun u M1 => ∃ M2, Sub M2 M1 ∧ Q u M2, fun _ _ => False, fun _ _ => False⟩ (startU 7 us) M) : Cs T (k + 1) 13 us M Q := ⟨d13, rfl, hl, h⟩
theorem cs14 {k : Nat} {us : List U} {M : Hm} {Q : QU} (hl : us.length = 3) (h : wS (Cs T k) b14 ⟨fun _ M1 => ∃ M2, Sub M2 M1 ∧ Q .non M2, fun u M1 => ∃ M2, Sub M2 M1 ∧ Q u M2, fun _ _ => False, fun _ _ => False⟩ (startU 6 us) M) : Cs T (k + 1) 14 us M Q := ⟨d14, rfl, hl, h⟩
theorem cs15 {k : Nat} {us : List U} {M : Hm} {Q : QU} (hl : us.length = 1) (h : wS (Cs T k) b15 ⟨fun _ M1 => ∃ M2, Sub M2 M1 ∧ Q .non M2, fun u M1 => ∃ M2, Sub M2 M1 ∧ Q u M2, fun _ _ => False, fun _ _ => False⟩ (startU 11 us) M) : Cs T (k + 1) 15 us M Q := ⟨d15, rfl, hl, h⟩
/-! ### the head -/
def fn : List He.DefD := sts.map mkD
def fa : List He.Fa := facts T
abbrev R : PySem.W.OpenRow := PySem.W.OpenLaw.row PySem.Challenge.rw_holdstill_k03_traces_read
abbrev hk : PySem.W.Hook := He.hookD 4 fa fn
def ob (s : PySem.W.SharedT) : He.AlD := He.obsDG 4 fa fn (HandSHeadRun.getT s)
theorem ob_eq (s : PySem.W.SharedT) : ob s = hk.obs s.abs := He.obsDG_eq (HandSHeadRun.getT_eq s)
def loose : List PySem.Str := ["puts_before", "lay_of", "asks_of", "path_step", "walks", "_law_begin", "_law_draw", "_law_pick", "_law_body", "_law_lay", "_law_asks", "_law_walks", "_law_event", "_law_walk", "_law_spoil"]
theorem run (w : World) : HandSHeadRun.RunEq R (PySem.W.view R.prog [17]) hk ob 4000 loose w := by
  intro os
  kernel_rfl
end K03

set_option maxHeartbeats 400000
namespace K03
open PySem L2 Pl
def depth : Nat := 40
theorem c_draw (k : Nat) : DrawC (Cs T (k + 1)) 6 := fun M p many Q d h1 h2 hq => cs6 rfl (draw_ok d h1 h2 fun r M' r0 r1 d' fr => ⟨M', Pl.Sub.refl _, hq r M' r0 r1 d' (Fr.of_eq fr)⟩)
theorem c_pick (k : Nat) : PickC (Cs T (k + 2)) 7 := fun M p row us Q d hr h1 h2 hq => cs7 rfl (pick_ok (c_draw k) d hr h1 h2 fun x M' hx d' fr => ⟨M', Pl.Sub.refl _, hq x M' hx d' fr⟩)
theorem c_body : ∀ (i k : Nat) (deep : Int), 0 ≤ deep → 9 - deep ≤ i → BodyC (Cs T (k + i + 3)) 8 deep
  | 0, k, deep, h0, h1 => fun M p s q n pp pa ps left j Q hj hn0 hn d hs ha hq => cs8 rfl (body_ok (c_draw (k + 1)) (c_pick k) h0 (fun z => absurd z (by omega)) hj hn0 hn d hs ha fun b M' hb d' fr => ⟨M', Pl.Sub.refl _, hq b M' hb d' fr⟩)
  | i + 1, k, deep, h0, h1 => fun M p s q n pp pa ps left j Q hj hn0 hn d hs ha hq => cs8 rfl (body_ok (c_draw (k + i + 2)) (c_pick (k + i + 1)) h0 (fun _ => c_body i k (deep + 1) (by omega) (by omega)) hj hn0 hn d hs ha fun b M' hb d' fr => ⟨M', Pl.Sub.refl _, hq b M' hb d' fr⟩)
theorem c_event (k : Nat) : EventC (Cs T (k + 3)) 12 := fun M p n Q h0 h1 d hq => cs12 rfl (event_ok (c_draw (k + 1)) (c_pick k) h0 h1 d fun e M' he d' fr => ⟨M', Pl.Sub.refl _, hq e M' he d' fr⟩)
theorem c_puts (k : Nat) : PutsC (Cs T (k + 1)) 0 := fun M es n Q h hq => cs0 rfl (puts_ok h fun p hp => ⟨_, Pl.Sub.refl _, hq p hp⟩)
theorem c_lay (k : Nat) {M : Hm} {es : List Ev} {Q : QU} (hl : es.length < LIM) (hq : ∀ M', Pl.Sub M M' → Q (layU es) M') : Cs T (k + 2) 1 [.tup (es.map encE)] M Q := cs1 rfl (lay_ok (c_puts k) hl fun M' s => ⟨M', Pl.Sub.refl _, hq M' s⟩)
theorem c_asks (k : Nat) {M : Hm} {es : List Ev} {Q : QU} (hl : es.length < LIM) (hq : ∀ M', Pl.Sub M M' → Q (asksU es) M') : Cs T (k + 1) 2 [.tup (es.map encE)] M Q := cs2 rfl (asks_ok hl fun M' s => ⟨M', Pl.Sub.refl _, hq M' s⟩)
theorem c_step (k : Nat) : StepC (Cs T (k + 1)) 3 := fun M b e Q hq => cs3 rfl (path_step_ok ⟨M, Pl.Sub.refl _, hq⟩)
theorem c_walks (k : Nat) {M : Hm} {b : Bd} {es : List Ev} {Q : QU} (hq : Q (.bl (walksM b es)) M) : Cs T (k + 2) 4 [encB b, .tup (es.map encE)] M Q := cs4 rfl (walks_ok (c_step k) ⟨M, Pl.Sub.refl _, hq⟩)
theorem c_llay (k : Nat) {M : Hm} {es : List Ev} {tr : U} {Q : QU} (ht : tr = .tup (es.map encE) ∨ ∃ p, tr = .ref p ∧ M p = some (.lst (es.map encE))) (ho : ∀ e ∈ es, e.ok) (hl : es.length < LIM) (hq : ∀ M', Pl.Sub M M' → Q (layU es) M') : Cs T (k + 1) 9 [tr] M Q := cs9 rfl (law_lay_ok ht ho hl fun M' s => ⟨M', Pl.Sub.refl _, hq M' s⟩)
theorem c_lasks (k : Nat) {M : Hm} {es : List Ev} {Q : QU} (ho : ∀ e ∈ es, e.ok) (hl : es.length < LIM) (hq : ∀ M', Pl.Sub M M' → Q (asksU es) M') : Cs T (k + 1) 10 [.tup (es.map encE)] M Q := cs10 rfl (law_asks_ok ho hl fun M' s => ⟨M', Pl.Sub.refl _, hq M' s⟩)
theorem c_lwalks (k : Nat) {M : Hm} {b : Bd} {es : List Ev} {n : Nat} {Q : QU} (hb : BW n b) (he : ∀ f c, Ev.see f c ∈ es → 0 ≤ c + 1 ∧ c + 1 < n) (hq : Q (.bl (walksM b es)) M) : Cs T (k + 1) 11 [encB b, .tup (es.map encE)] M Q := cs11 rfl (law_walks_ok hb he ⟨M, Pl.Sub.refl _, hq⟩)
theorem okU_lay {es : List Ev} (h : ∀ e ∈ es, e.ok) : okU (layU es) = true := by
  show (((putsM es).map pairU).all (U.ok 59)) = true
  rw [List.all_eq_true]
  intro x hx
  rw [List.mem_map] at hx
  obtain ⟨y, hy, rfl⟩ := hx
  obtain ⟨f, c, hm, rfl⟩ := putsM_mem hy
  have := h _ hm
  show ([U.str f, U.int c].all (U.ok 58)) = true
  simp only [List.all_cons, List.all_nil, Bool.and_true, Bool.and_eq_true]
  exact ⟨this, rfl⟩
theorem okU_asks {es : List Ev} (h : ∀ e ∈ es, e.ok) : okU (asksU es) = true := by
  show (((asksM es).map U.str).all (U.ok 59)) = true
  rw [List.all_eq_true]
  intro x hx
  rw [List.mem_map] at hx
  obtain ⟨y, hy, rfl⟩ := hx
  exact h _ (asksM_mem hy)
theorem bp_bw {n : Nat} {pp : Str → Int → Prop} {pa ps : Str → Prop} (hpp : ∀ f c, pp f c → okS f = true) (hpa : ∀ f, pa f → okS f = true) (hps : ∀ f, ps f → okS f = true) {j : Nat} {b : Bd} (h : BP n pp pa ps j b) : BW n b := by
  induction h with
  | done => exact .done
  | put a _ ih => exact .put (hpp _ _ a) ih
  | ask a _ ih => exact .ask (hpa _ a) ih
  | see a l _ ih => exact .see (hps _ a) l ih
theorem law_true (ns : List Int) (hns : ns.length ≤ 63) : Cs T depth 15 [.rol (ns.map U.int)] (fun _ => none) (fun u _ => u = .bl true) := by
  refine cs15 (k := 39) rfl ?_
  unfold b15
  (repeat decreasing_trivial_pre_omega)
  refine cs5 (k := 38) rfl (begin_ok hns fun p M0 s0 d0 => ⟨M0, Pl.Sub.refl _, ?_⟩)
  (repeat decreasing_trivial_pre_omega)
  refine (c_draw 38).lt M0 p 4 _ d0 (by decide) (by decide) fun n0 M1 hn0 d1 fr1 => ?_
  (repeat decreasing_trivial_pre_omega)
  obtain ⟨n, en, n1, n2⟩ : ∃ n : Nat, (1 : Int) + (n0 : Nat) = (n : Nat) ∧ 0 < n ∧ n < 100 := ⟨1 + n0, by omega, by omega, by omega⟩
  rw [en]
  refine (c_draw 38).lt M1 p 13 _ d1 (by decide) (by decide) fun m M2 hm d2 fr2 => ?_
  (repeat decreasing_trivial_pre_omega)
  refine ⟨by unfold LIM; omega, by unfold LIM; omega, ?_⟩
  rw [rngU_nat]
  refine compL_by (enc := fun i : Nat => U.int (i : Nat)) (fun don rest acc M' => ∃ es : List Ev, acc = es.map encE ∧ es.length = don.length ∧ (∀ e ∈ es, EvIn n e) ∧ Dr M' p) (List.range m) ⟨[], rfl, rfl, (by intro e he; cases he), d2⟩ ?_ ?_
  · intro don i rest acc M' k e ⟨es, e1, e2, e3, e4⟩ hk
    subst e1
    have hlen : don.length < 13 := by
      have : don.length + rest.length + 1 = m := by rw [← List.length_range (n := m), ← e]; simp; omega
      omega
    (repeat decreasing_trivial_pre_omega)
    refine c_event 36 _ _ _ _ n1 n2 e4 fun ev M3 hev d3 fr3 => ?_
    refine hk _ _ trivial (fun _ => ?_) ⟨es ++ [ev], ?_, ?_, ?_, d3⟩
    · rw [List.length_map]; unfold LIM; omega
    · rw [List.map_append]; rfl
    · simp; omega
    · intro e he
      rcases List.mem_append.mp he with he | he
      · exact e3 e he
      · rw [List.mem_singleton] at he; subst he; exact hev
  intro acc M3 ⟨es, e1, e2, e3, d3⟩
  subst e1
  rw [List.length_range] at e2
  intro a ha
  have d4 := d3.upd (o := .lst (es.map encE)) ha
  have e4 : um M3 a (.lst (es.map encE)) a = some (.lst (es.map encE)) := um_same
  generalize um M3 a (.lst (es.map encE)) = M4 at d4 e4 ⊢
  have hok : ∀ e ∈ es, e.ok := fun e he => (e3 e he).1
  have hl : es.length < LIM := by unfold LIM; omega
  (repeat decreasing_trivial_pre_omega)
  refine c_lay 37 hl fun M5 s5 => ?_
  (repeat decreasing_trivial_pre_omega)
  refine c_llay 38 (.inl rfl) hok hl fun M6 s6 => ?_
  refine c_ne (eq_tup (okU_lay hok) (okU_lay hok) ?_)
  (repeat decreasing_trivial_pre_omega)
  refine c_asks 38 hl fun M7 s7 => ?_
  (repeat decreasing_trivial_pre_omega)
  refine c_lasks 38 hok hl fun M8 s8 => ?_
  refine c_ne (eq_tup (okU_asks hok) (okU_asks hok) ?_)
  (repeat decreasing_trivial_pre_omega)
  refine c_lay 37 hl fun M9 s9 => ?_
  refine y_tup ?_
  (repeat decreasing_trivial_pre_omega)
  refine c_asks 38 hl fun M10 s10 => ?_
  refine y_tup ?_
  (repeat decreasing_trivial_pre_omega)
  have d10 : Dr M10 p := d4.sub (((((s5.trans s6).trans s7).trans s8).trans s9).trans s10)
  intro a1 h1
  (repeat decreasing_trivial_pre_omega)
  intro a2 h2
  (repeat decreasing_trivial_pre_omega)
  intro a3 h3
  (repeat decreasing_trivial_pre_omega)
  intro a4 h4
  (repeat decreasing_trivial_pre_omega)
  intro a5 h5
  (repeat decreasing_trivial_pre_omega)
  intro a6 h6
  (repeat decreasing_trivial_pre_omega)
  intro a7 h7
  (repeat decreasing_trivial_pre_omega)
  intro a8 h8
  (repeat decreasing_trivial_pre_omega)
  have D1 := d10.upd (o := .lst [.str "x", .str "y"]) h1
  have D2 := D1.upd (o := .lst [.str "x"]) h2
  have D3 := D2.upd (o := .lst [.str "z"]) h3
  have D4 := D3.upd (o := .lst [.ref a2, .ref a3]) h4
  have D5 := D4.upd (o := .lst [.str "q", .str "p"]) h5
  have D6 := D5.upd (o := .lst [.str "y"]) h6
  have D7 := D6.upd (o := .lst [.int n, .tup [.str "a"], .ref a1, .ref a4, .ref a5, .ref a6]) h7
  have D8 := D7.upd (o := .lst []) h8
  have e1 := d10.ne h1
  have e2 := D1.ne h2
  have e3 := D2.ne h3
  have e4 := D3.ne h4
  have e5 := D4.ne h5
  have e6 := D5.ne h6
  have e7 := D6.ne h7
  have e8 := D7.ne h8
  refine c_body 9 27 0 (by decide) (by decide) _ p a7 a8 n (fun f => okS f = true) (fun f => okS f = true) (fun f => okS f = true) 14 9 _ (by decide) n1 n2 D8 ?_ ?_ fun b M11 hb d11 fr11 => ?_
  · refine ⟨["a"], ["x", "y"], ["q", "p"], ["y"], a1, a4, a5, a6, [a2, a3], e7, by get_elem_tactic_extensible, by decide, by decide +kernel, ⟨e1, by decide, by decide +kernel, by get_elem_tactic_extensible⟩, ⟨e5, by decide, by decide +kernel, by get_elem_tactic_extensible⟩, ⟨e6, by decide, by decide +kernel, by get_elem_tactic_extensible⟩, e4, by get_elem_tactic_extensible, by simp, fun r hr => ?_⟩
    rw [List.mem_cons, List.mem_singleton] at hr
    rcases hr with rfl | rfl
    · exact ⟨["x"], e2, by decide, by decide +kernel, by get_elem_tactic_extensible⟩
    · exact ⟨["z"], e3, by decide, by decide +kernel, by get_elem_tactic_extensible⟩
  · exact ⟨[], .int n, .tup [.str "a"], .ref a1, .ref a5, .ref a6, a4, [a2, a3], e8, by get_elem_tactic_extensible, by decide, by get_elem_tactic_extensible, by get_elem_tactic_extensible, e7, e4, by intro i hi; cases hi⟩
  have hbw : BW (n + 1) b := bp_bw (fun f c h => h.1) (fun f h => h) (fun f h => h) hb
  (repeat decreasing_trivial_pre_omega)
  refine ⟨by simp [LIM], by simp [LIM], ?_⟩
  rw [show (3 : Int) = ((3 : Nat) : Int) from rfl, rngU_nat]
  refine forL_by (enc := fun i : Nat => U.int (i : Nat)) (fun don rest σ M' => ∃ u7 u8 u9 u10, σ = [some (.rol (ns.map U.int)), some (.ref p.1), some (.int n), some (.tup (es.map encE)), none, some (.ref a7), some (encB b), u7, u8, u9, u10] ∧ Dr M' p) (List.range 3) ⟨_, _, _, _, rfl, d11⟩ ?_ ?_
  · intro don i rest σ M' k e ⟨u7, u8, u9, u10, eσ, d12⟩ hk
    subst eσ
    (repeat decreasing_trivial_pre_omega)
    refine cs13 (k := 38) rfl (walk_ok (c_draw 37) (fun f c h => h.1) (fun f h => h) (fun f h => h) n2 hb (by decide) d12 fun ws r M12 hw hwl hwe d13 fr13 hr hm => ⟨M12, Pl.Sub.refl _, ?_⟩)
    have hwok : ∀ e ∈ ws, e.ok := fun e he => (hwe e he).1
    have hwl' : ws.length < LIM := by unfold LIM; omega
    (repeat decreasing_trivial_pre_omega)
    refine c_walks 37 ?_
    have hwm : walksM b ws = true := by unfold walksM; rw [hw]; rfl
    rw [hwm]
    (repeat decreasing_trivial_pre_omega)
    refine c_lay 37 hwl' fun M13 s13 => ?_
    (repeat decreasing_trivial_pre_omega)
    refine c_llay 38 (.inr ⟨r, rfl, s13 _ _ hm⟩) hwok hwl' fun M14 s14 => ?_
    refine c_ne (eq_tup (okU_lay hwok) (okU_lay hwok) ?_)
    (repeat decreasing_trivial_pre_omega)
    have hm14 := s14 _ _ (s13 _ _ hm)
    refine cs14 (k := 38) rfl (spoil_ok (c_draw 37) (c_event 35) n1 n2 (d13.sub (s13.trans s14)) hr hm14 hwl hwe fun fs q M15 hfs d15 fr15 hq15 => ⟨M15, Pl.Sub.refl _, ?_⟩)
    (repeat decreasing_trivial_pre_omega)
    refine c_walks 37 ?_
    (repeat decreasing_trivial_pre_omega)
    refine c_lwalks 38 hbw (fun f c he => (hfs _ he).2 f c rfl) ?_
    (repeat decreasing_trivial_pre_omega)
    exact hk _ _ trivial ⟨_, _, _, _, rfl, d15⟩
  intro σ M' ⟨u7, u8, u9, u10, eσ, d12⟩
  subst eσ
  (repeat decreasing_trivial_pre_omega)
  refine c_walks (b := .done) (es := []) 37 ?_
  rw [show walksM .done [] = true from rfl]
  (repeat decreasing_trivial_pre_omega)
  refine c_walks (b := .put "x" 0 .done) (es := []) 37 ?_
  rw [show walksM (.put "x" 0 .done) [] = false from rfl]
  (repeat decreasing_trivial_pre_omega)
  exact ⟨M', Pl.Sub.refl _, rfl⟩
end K03

open PySem PySem.W PySem.Calls PyProof.Rows
theorem PySem.Challenge.cw_holdstill_k03_traces_read_holds : PySem.Challenge.rw_holdstill_k03_traces_read.Holds := by
  w_on; o_law
  refine HandSHeadRun.head_any (r := OpenLaw.row PySem.Challenge.rw_holdstill_k03_traces_read) (q := view (OpenLaw.row PySem.Challenge.rw_holdstill_k03_traces_read).prog [17]) (H := K03.hk) (ob := K03.ob) (M := 4000) (loose := K03.loose) (d := HandSHeadRun.topDef (OpenLaw.row PySem.Challenge.rw_holdstill_k03_traces_read).prog 17) (kwd := []) K03.ob_eq
    (by kernel_rfl) (fun s => by kernel_rfl) K03.run (by kernel_rfl) (by kernel_rfl) (by kernel_rfl) (by rfl) (by first | assumption | decide +kernel) (by decide +kernel) ⟨rfl, rfl, rfl, rfl, rfl, by decide +kernel⟩ ?hw ?hc
  case hw => w_witness2
  case hc =>
    refine L2.walk_ofE (l := PySem.Challenge.rw_holdstill_k03_traces_read) (n := 63) (k := K03.depth) (x := "script") (CX := L2.CX0) rfl (by decide) (by kernel_rfl) ⟨rfl, by decide, by decide⟩ ?F (fun _ _ _ _ z => z)
    intro w mg fa h Y G hmg0
    obtain ⟨K, KX, c⟩ := Y
    have hmg : mg ("law" : PySem.Str) = some (.ref fa) := by
      have e : (HandSHeadRun.topDef (OpenLaw.row PySem.Challenge.rw_holdstill_k03_traces_read).prog 17).name = ("law" : PySem.Str) := by kernel_rfl
      rw [← e]
      exact hmg0
    obtain ⟨fd, sp, hb, hs, hF⟩ := Pl.law_ok (P := (PySem.Challenge.rw_holdstill_k03_traces_read).prog) (wd := w) (n := 15) (k := K03.depth) (dl := K03.d15) K03.ck K03.bd rfl rfl rfl KX G hmg c K03.law_true
    exact ⟨K, fd, sp, KX, hb, hs, hF⟩

