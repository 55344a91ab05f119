import PyProof.Rows.All
import Wide.All
import OpenK.AllK
import Wide.FinOn
import HandS.ForMost
import HandS.Conv
import HandS.IsInst
import HandS.Style
import HandS.TupAny
import HandS.TupLe
import HandS.Deep
import HandS.SetKeys
import HandS.NoneIn
import HandS.Property
import HandS.Rev
import HandS.HeadHook1
import KE.KeyNested
import PyProof.DictRoadsH
import KE.SortData
import KE.SortLaws
import KE.KDictCopyH
import HandS.TupLen
import PyProof.DictMoreH
import HandS.DictTup
import PyProof.AutoSeq1
import HandS.More
import HandS.Flow
import KE.GoesEnum
import KE.GoesNew
import HandS.Strs
import HandS.DictComp
import HandS.Head0
import HandS.Head1
import HandS.Head2
import HandS.HeadEnd
import HandS.HeadHook2
import HandS.Defaults
import PySem.Challenge.RW_holdstill_k71_caches_kept
set_option Elab.async false
set_option linter.all false
set_option maxRecDepth 100000
set_option maxHeartbeats 4000000
/-! Pl: pure values over the abstract heap, a small syntax, what it asks. -/
namespace Pl
open PySem L2

abbrev Fg := PySem.W.Frag
/-- what is written, and the world that hashes -/
abbrev Kw := Fg × PySem.World
instance kwFg : CoeOut Kw Fg := ⟨Prod.fst⟩
abbrev kwX (X : L2.Cx) : Kw := (X.K, X.w)

/-- pure values: tuples are values; ref: something that can change; rol: a list that is only read; dtp: a tuple that is known to have no dict -/
inductive U where
  | non | bl (b : Bool) | int (i : Int) | str (x : Str) | tup (l : List U) | ref (a : Addr) | rol (l : List U) | dtp (l : List U)

mutual
def U.dec : (x y : U) → Decidable (x = y)
  | .non, .non => .isTrue rfl
  | .bl a, .bl b => if h : a = b then .isTrue (by rw [h]) else .isFalse (fun e => h (by injection e))
  | .int a, .int b => if h : a = b then .isTrue (by rw [h]) else .isFalse (fun e => h (by injection e))
  | .str a, .str b => if h : a = b then .isTrue (by rw [h]) else .isFalse (fun e => h (by injection e))
  | .ref a, .ref b => if h : a = b then .isTrue (by rw [h]) else .isFalse (fun e => h (by injection e))
  | .tup a, .tup b => match U.decL a b with
    | .isTrue h => .isTrue (by rw [h])
    | .isFalse h => .isFalse (fun e => h (by injection e))
  | .rol a, .rol b => match U.decL a b with
    | .isTrue h => .isTrue (by rw [h])
    | .isFalse h => .isFalse (fun e => h (by injection e))
  | .non, .bl _ => .isFalse (fun e => nomatch e)
  | .non, .int _ => .isFalse (fun e => nomatch e)
  | .non, .str _ => .isFalse (fun e => nomatch e)
  | .non, .tup _ => .isFalse (fun e => nomatch e)
  | .non, .ref _ => .isFalse (fun e => nomatch e)
  | .non, .rol _ => .isFalse (fun e => nomatch e)
  | .bl _, .non => .isFalse (fun e => nomatch e)
  | .bl _, .int _ => .isFalse (fun e => nomatch e)
  | .bl _, .str _ => .isFalse (fun e => nomatch e)
  | .bl _, .tup _ => .isFalse (fun e => nomatch e)
  | .bl _, .ref _ => .isFalse (fun e => nomatch e)
  | .bl _, .rol _ => .isFalse (fun e => nomatch e)
  | .int _, .non => .isFalse (fun e => nomatch e)
  | .int _, .bl _ => .isFalse (fun e => nomatch e)
  | .int _, .str _ => .isFalse (fun e => nomatch e)
  | .int _, .tup _ => .isFalse (fun e => nomatch e)
  | .int _, .ref _ => .isFalse (fun e => nomatch e)
  | .int _, .rol _ => .isFalse (fun e => nomatch e)
  | .str _, .non => .isFalse (fun e => nomatch e)
  | .str _, .bl _ => .isFalse (fun e => nomatch e)
  | .str _, .int _ => .isFalse (fun e => nomatch e)
  | .str _, .tup _ => .isFalse (fun e => nomatch e)
  | .str _, .ref _ => .isFalse (fun e => nomatch e)
  | .str _, .rol _ => .isFalse (fun e => nomatch e)
  | .tup _, .non => .isFalse (fun e => nomatch e)
  | .tup _, .bl _ => .isFalse (fun e => nomatch e)
  | .tup _, .int _ => .isFalse (fun e => nomatch e)
  | .tup _, .str _ => .isFalse (fun e => nomatch e)
  | .tup _, .ref _ => .isFalse (fun e => nomatch e)
  | .tup _, .rol _ => .isFalse (fun e => nomatch e)
  | .ref _, .non => .isFalse (fun e => nomatch e)
  | .ref _, .bl _ => .isFalse (fun e => nomatch e)
  | .ref _, .int _ => .isFalse (fun e => nomatch e)
  | .ref _, .str _ => .isFalse (fun e => nomatch e)
  | .ref _, .tup _ => .isFalse (fun e => nomatch e)
  | .ref _, .rol _ => .isFalse (fun e => nomatch e)
  | .rol _, .non => .isFalse (fun e => nomatch e)
  | .rol _, .bl _ => .isFalse (fun e => nomatch e)
  | .rol _, .int _ => .isFalse (fun e => nomatch e)
  | .rol _, .str _ => .isFalse (fun e => nomatch e)
  | .rol _, .tup _ => .isFalse (fun e => nomatch e)
  | .rol _, .ref _ => .isFalse (fun e => nomatch e)
  | .dtp _, .non => .isFalse (fun e => nomatch e)
  | .non, .dtp _ => .isFalse (fun e => nomatch e)
  | .dtp _, .bl _ => .isFalse (fun e => nomatch e)
  | .bl _, .dtp _ => .isFalse (fun e => nomatch e)
  | .dtp _, .int _ => .isFalse (fun e => nomatch e)
  | .int _, .dtp _ => .isFalse (fun e => nomatch e)
  | .dtp _, .str _ => .isFalse (fun e => nomatch e)
  | .str _, .dtp _ => .isFalse (fun e => nomatch e)
  | .dtp _, .tup _ => .isFalse (fun e => nomatch e)
  | .tup _, .dtp _ => .isFalse (fun e => nomatch e)
  | .dtp _, .ref _ => .isFalse (fun e => nomatch e)
  | .ref _, .dtp _ => .isFalse (fun e => nomatch e)
  | .dtp _, .rol _ => .isFalse (fun e => nomatch e)
  | .rol _, .dtp _ => .isFalse (fun e => nomatch e)
  | .dtp a, .dtp b => match U.decL a b with
    | .isTrue h => .isTrue (by rw [h])
    | .isFalse h => .isFalse (fun e => h (by injection e))
def U.decL : (x y : List U) → Decidable (x = y)
  | [], [] => .isTrue rfl
  | [], _ :: _ => .isFalse (fun e => nomatch e)
  | _ :: _, [] => .isFalse (fun e => nomatch e)
  | a :: x, b :: y => match U.dec a b with
    | .isFalse h => .isFalse (fun e => h (by injection e))
    | .isTrue h => match U.decL x y with
      | .isFalse k => .isFalse (fun e => k (by injection e))
      | .isTrue k => .isTrue (by rw [h, k])
end
instance : DecidableEq U := U.dec

/-! ### values and the heap -/
/-- a tuple that was laid -/
def Tp (K : Kw) (H : Hp) (a : Addr) (vs : List V) : Prop :=
  H a = some (.tup vs)
theorem Tp.sq {K : Kw} {H : Hp} {a : Addr} {vs : List V} (h : Tp K H a vs) : SqT K H a vs := .inl (.inl h)
/-- a list that is never written -/
def Rl (K : Kw) (H : Hp) (a : Addr) (vs : List V) : Prop :=
  (∃ o, H a = some (.frz o (.lst vs))) ∨ ∃ (o : Obj) (its : Array Value) (n : Nat), K.1.lookup a = some o ∧ o.cls = .type "list" ∧ o.dict = none ∧ o.data = .seq its n ∧ its.size ≤ sizeLine ∧ Vals vs its.toList
theorem Rl.sq {K : Kw} {H : Hp} {a : Addr} {vs : List V} (h : Rl K H a vs) : SqL K H a vs := h.elim (fun h => .inl (.inr h)) .inr

/-- a tuple that was laid and has no dict -/
def Td (K : Kw) (H : Hp) (a : Addr) (vs : List V) : Prop := ∃ o, H a = some (.frz o (.tup vs)) ∧ o.dict = none ∧ o.slots = #[]
theorem Td.sq {K : Kw} {H : Hp} {a : Addr} {vs : List V} (h : Td K H a vs) : SqT K H a vs := .inl (.inr (h.elim fun o e => ⟨o, e.1⟩))
mutual
inductive Rel (K : Kw) (H : Hp) : V → U → Prop
  | non : Rel K H .non .non
  | bl (b : Bool) : Rel K H (.bl b) (.bl b)
  | int (i : Int) : Rel K H (.int i) (.int i)
  | str (x : Str) : Rel K H (.str x) (.str x)
  | tup {a : Addr} {vs : List V} {us : List U} : Tp K H a vs → RelL K H vs us → Rel K H (.ref a) (.tup us)
  | rol {a : Addr} {vs : List V} {us : List U} : Rl K H a vs → RelL K H vs us → Rel K H (.ref a) (.rol us)
  | ref (a : Addr) : Rel K H (.ref a) (.ref a)
  | dtp {a : Addr} {vs : List V} {us : List U} : Td K H a vs → RelL K H vs us → Rel K H (.ref a) (.dtp us)
inductive RelL (K : Kw) (H : Hp) : List V → List U → Prop
  | nil : RelL K H [] []
  | cons {v : V} {vs : List V} {u : U} {us : List U} : Rel K H v u → RelL K H vs us → RelL K H (v :: vs) (u :: us)
end

/-- what may change -/
inductive MO where
  | lst (us : List U)
  /-- z: walked at the moment; t: its keys are tuples -/
  | dct (z t : Bool) (ks : List (U × U))
  /-- its keys are tuples, within one another -/
  | dcn (ks : List (U × U))
  /-- an instance: its class's name, its attributes -/
  | obj (c : Str) (fs : List (Str × U))
abbrev Hm := Addr → Option MO
def um (M : Hm) (a : Addr) (o : MO) : Hm := fun b => if b = a then some o else M b
theorem um_same {M : Hm} {a : Addr} {o : MO} : um M a o a = some o := if_pos rfl
theorem um_ne {M : Hm} {a b : Addr} {o : MO} (h : b ≠ a) : um M a o b = M b := if_neg h
theorem um_um {M : Hm} {a : Addr} {o o' : MO} : um (um M a o) a o' = um M a o' := by
  funext b; unfold um; split <;> rfl
theorem um_comm {M : Hm} {a b : Addr} {o o' : MO} (h : a ≠ b) : um (um M a o) b o' = um (um M b o') a o := by
  funext c; unfold um
  by_cases h1 : c = b
  · subst h1
    rw [if_pos rfl, if_neg (fun e => h e.symm), if_pos rfl]
  · rw [if_neg h1]
    by_cases h2 : c = a
    · rw [if_pos h2, if_pos h2]
    · rw [if_neg h2, if_neg h2, if_neg h1]
theorem um_self {M : Hm} {a : Addr} {o : MO} (h : M a = some o) : um M a o = M := by
  funext b; unfold um
  by_cases e : b = a
  · rw [if_pos e, e, h]
  · rw [if_neg e]

def keyU : Key → U
  | .inl i => .int i
  | .inr x => .str x
theorem keyU_inj {a b : Key} (e : keyU a = keyU b) : a = b := by
  cases a <;> cases b <;> first | (injection e with e; rw [e]) | cases e
theorem keysU_inj : ∀ {a b : List Key}, a.map keyU = b.map keyU → a = b
  | [], [], _ => rfl
  | [], _ :: _, e => by cases e
  | _ :: _, [], e => by cases e
  | x :: xs, y :: ys, e => by
    rw [List.map_cons, List.map_cons] at e
    injection e with e1 e2
    rw [keyU_inj e1, keysU_inj e2]

/-! ### keys within keys -/
mutual
def nk : U → PySem.NestedKey
  | .non => .none
  | .int i => .num i
  | .str x => .text x
  | .tup l => .tup (nkL l)
  | _ => .none
def nkL : List U → List PySem.NestedKey
  | [] => []
  | x :: xs => nk x :: nkL xs
end
/-- plain data of this depth, no truth values -/
def U.okN : Nat → U → Bool
  | _, .non => true
  | _, .int _ => true
  | _, .str _ => true
  | n + 1, .tup l => l.all (U.okN n)
  | _, _ => false
def isKeyN : U → Bool
  | .tup l => (U.tup l).okN 7
  | _ => false
abbrev NEnt := PySem.NestedKey × Addr × PySem.Value
def entN (w : PySem.World) (x : NEnt) : DictEntry := { hash := PySem.NestedKey.hash w x.1, key := .ref x.2.1, val := x.2.2 }
def dcnP (w : PySem.World) (a : Addr) (xs : List NEnt) : Heap → Prop := fun h => ∃ o es ep, h.get? a = some o ∧ o.ExactDict ∧ o.data = Data.dict es ep ∧ es.toList = xs.map (entN w) ∧ (xs.map (·.1)).Nodup
def RelN (K : Kw) (H : Hp) : List NEnt → List (U × U) → Prop := Paired fun q p => (isKeyN p.1 = true ∧ q.1 = nk p.1 ∧ Rel K H (.ref q.2.1) p.1) ∧ ∃ v, RelV v q.2.2 ∧ Rel K H v p.2
/-- two rows of entries -/
def RelK (K : Kw) (H : Hp) : List (Key × V) → List (U × U) → Prop := Paired fun p q => q.1 = keyU p.1 ∧ Rel K H p.2 q.2
def RelT (K : Kw) (H : Hp) : List (List Key × V) → List (U × U) → Prop := Paired fun p q => q.1 = .tup (p.1.map keyU) ∧ Rel K H p.2 q.2
def RelF (K : Kw) (H : Hp) : List (Str × V) → List (Str × U) → Prop := Paired fun p q => p.1 = q.1 ∧ Rel K H p.2 q.2
/-- where a class lies -/
def cad (K : Fg) (c : Str) : Addr := He.ga K c
def fz (z : Bool) (o : Option HO) (u : HO) : Prop := if z = true then ∃ ob, o = some (.frz ob u) else o = some u

def OR (K : Kw) (H : Hp) (a : Addr) : MO → Prop
  | .lst us => ∃ vs, H a = some (.lst vs) ∧ RelL K H vs us
  | .dct z false ks => ∃ kvs, fz z (H a) (.dK kvs) ∧ RelK K H kvs ks
  | .dct z true ks => ∃ kvs, fz z (H a) (.dT kvs) ∧ RelT K H kvs ks
  | .dcn ks => ∃ xs, H a = some (.ext (dcnP K.2 a xs)) ∧ RelN K H xs ks ∧ (a == sysModules) = false ∧ xs.length ≤ sizeLine
  | .obj c fs => ∃ dx vs, H a = some (.ins (cad K c) dx vs) ∧ RelF K H vs fs ∧ Cls K (cad K c) ∧ ∀ x ∈ vs, NoAttr K (cad K c) x.1
def Sim (K : Kw) (H : Hp) (M : Hm) : Prop := ∀ a o, M a = some o → OR K H a o
/-- what is not among M's things stays as it is; so does what is walked -/
structure Stp (H : Hp) (M : Hm) (H' : Hp) (M' : Hm) : Prop where
  keep : ∀ a o, H a = some o → M a = none → H' a = some o ∧ M' a = none
  lock : ∀ a t ks, M a = some (.dct true t ks) → H' a = H a ∧ (M' a = M a ∨ M' a = none)

theorem Stp.refl (H : Hp) (M : Hm) : Stp H M H M := ⟨fun _ _ h n => ⟨h, n⟩, fun _ _ _ _ => ⟨rfl, .inl rfl⟩⟩

theorem fz_some {z : Bool} {o : Option HO} {u : HO} (h : fz z o u) : ∃ x, o = some x := by
  unfold fz at h
  cases z with
  | true => obtain ⟨_, e⟩ := (show ∃ ob, o = some (.frz ob u) from h); exact ⟨_, e⟩
  | false => exact ⟨_, h⟩
theorem OR.has {K : Kw} {H : Hp} {a : Addr} {o : MO} (h : OR K H a o) : ∃ x, H a = some x := by
  cases o with
  | lst us => obtain ⟨vs, e, _⟩ := h; exact ⟨_, e⟩
  | dct z t ks =>
    cases t with
    | false => obtain ⟨kvs, e, _⟩ := h; exact fz_some e
    | true => obtain ⟨kvs, e, _⟩ := h; exact fz_some e
  | dcn ks => obtain ⟨xs, e, _⟩ := h; exact ⟨_, e⟩
  | obj c fs => obtain ⟨dx, vs, e, _⟩ := h; exact ⟨_, e⟩
theorem Stp.trans {K : Kw} {H H1 H2 : Hp} {M M1 M2 : Hm} (S : Sim K H M) (a : Stp H M H1 M1) (b : Stp H1 M1 H2 M2) : Stp H M H2 M2 :=
  ⟨fun x o h n => let ⟨h1, n1⟩ := a.keep x o h n; b.keep x o h1 n1, fun x t ks e => by
    obtain ⟨e1, e2⟩ := a.lock x t ks e
    rcases e2 with e2 | e2
    · obtain ⟨f1, f2⟩ := b.lock x t ks (by rw [e2]; exact e)
      exact ⟨f1.trans e1, by rw [← e2]; exact f2⟩
    · obtain ⟨o, ho⟩ := (S x _ e).has
      obtain ⟨f1, f2⟩ := b.keep x o (by rw [e1]; exact ho) e2
      exact ⟨by rw [f1, ho], .inr f2⟩⟩
theorem Sim.fr {K : Kw} {H : Hp} {M : Hm} (S : Sim K H M) {a : Addr} (h : H a = none) : M a = none := by
  cases e : M a with
  | none => rfl
  | some o =>
    obtain ⟨x, q⟩ := (S a o e).has
    rw [h] at q
    cases q
theorem fz_tup {z : Bool} {o : Option HO} {u : HO} {vs : List V} (h : fz z o u) (hu : ∀ xs, u ≠ .tup xs) : o ≠ some (.tup vs) := fun e => by
  unfold fz at h
  cases z with
  | true =>
    obtain ⟨_, q⟩ := (show ∃ ob, o = some (.frz ob u) from h)
    rw [e] at q
    cases q
  | false =>
    have q : o = some u := h
    rw [e] at q
    cases q
    exact hu _ rfl
theorem fz_rol {z : Bool} {o : Option HO} {u : HO} {ob : Obj} {vs : List V} (h : fz z o u) (hu : ∀ xs, u ≠ .lst xs) (hf : ∀ o' x, u ≠ .frz o' x) : o ≠ some (.frz ob (.lst vs)) := fun e => by
  unfold fz at h
  cases z with
  | true =>
    obtain ⟨_, q⟩ := (show ∃ ob, o = some (.frz ob u) from h)
    rw [e] at q
    cases q
    exact hu _ rfl
  | false =>
    have q : o = some u := h
    rw [e] at q
    cases q
    exact hf _ _ rfl
theorem Sim.noTup {K : Kw} {H : Hp} {M : Hm} (S : Sim K H M) {a : Addr} {vs : List V} (h : H a = some (.tup vs)) : M a = none := by
  cases e : M a with
  | none => rfl
  | some o =>
    have q := S a o e
    cases o with
    | lst us =>
      obtain ⟨_, e2, _⟩ := q
      rw [h] at e2
      cases e2
    | dct z t ks =>
      cases t with
      | false => obtain ⟨kvs, e2, _⟩ := q; exact absurd h (fz_tup e2 fun _ x => nomatch x)
      | true => obtain ⟨kvs, e2, _⟩ := q; exact absurd h (fz_tup e2 fun _ x => nomatch x)
    | dcn ks =>
      obtain ⟨_, e2, _⟩ := q
      rw [h] at e2
      cases e2
    | obj c fs =>
      obtain ⟨_, _, e2, _⟩ := q
      rw [h] at e2
      cases e2
theorem Sim.noRol {K : Kw} {H : Hp} {M : Hm} (S : Sim K H M) {a : Addr} {ob : Obj} {vs : List V} (h : H a = some (.frz ob (.lst vs))) : M a = none := by
  cases e : M a with
  | none => rfl
  | some o =>
    have q := S a o e
    cases o with
    | lst us =>
      obtain ⟨_, e2, _⟩ := q
      rw [h] at e2
      cases e2
    | dct z t ks =>
      cases t with
      | false => obtain ⟨kvs, e2, _⟩ := q; exact absurd h (fz_rol e2 (fun _ x => nomatch x) fun _ _ x => nomatch x)
      | true => obtain ⟨kvs, e2, _⟩ := q; exact absurd h (fz_rol e2 (fun _ x => nomatch x) fun _ _ x => nomatch x)
    | dcn ks =>
      obtain ⟨_, e2, _⟩ := q
      rw [h] at e2
      cases e2
    | obj c fs =>
      obtain ⟨_, _, e2, _⟩ := q
      rw [h] at e2
      cases e2
theorem fz_td {z : Bool} {o : Option HO} {u : HO} {ob : Obj} {vs : List V} (h : fz z o u) (hu : ∀ xs, u ≠ .tup xs) (hf : ∀ o' x, u ≠ .frz o' x) : o ≠ some (.frz ob (.tup vs)) := fun e => by
  unfold fz at h
  cases z with
  | true =>
    obtain ⟨_, q⟩ := (show ∃ ob, o = some (.frz ob u) from h)
    rw [e] at q
    cases q
    exact hu _ rfl
  | false =>
    have q : o = some u := h
    rw [e] at q
    cases q
    exact hf _ _ rfl
theorem Sim.noTd {K : Kw} {H : Hp} {M : Hm} (S : Sim K H M) {a : Addr} {ob : Obj} {vs : List V} (h : H a = some (.frz ob (.tup vs))) : M a = none := by
  cases e : M a with
  | none => rfl
  | some o =>
    have q := S a o e
    cases o with
    | lst us =>
      obtain ⟨_, e2, _⟩ := q
      rw [h] at e2
      cases e2
    | dct z t ks =>
      cases t with
      | false => obtain ⟨kvs, e2, _⟩ := q; exact absurd h (fz_td e2 (fun _ x => nomatch x) fun _ _ x => nomatch x)
      | true => obtain ⟨kvs, e2, _⟩ := q; exact absurd h (fz_td e2 (fun _ x => nomatch x) fun _ _ x => nomatch x)
    | dcn ks =>
      obtain ⟨_, e2, _⟩ := q
      rw [h] at e2
      cases e2
    | obj c fs =>
      obtain ⟨_, _, e2, _⟩ := q
      rw [h] at e2
      cases e2
theorem Td.stp {K : Kw} {H H' : Hp} {M M' : Hm} (S : Sim K H M) (t : Stp H M H' M') {a : Addr} {vs : List V} (h : Td K H a vs) : Td K H' a vs := by
  obtain ⟨o, h, d⟩ := h
  exact ⟨o, (t.keep a _ h (S.noTd h)).1, d⟩
theorem Tp.stp {K : Kw} {H H' : Hp} {M M' : Hm} (S : Sim K H M) (t : Stp H M H' M') {a : Addr} {vs : List V} (h : Tp K H a vs) : Tp K H' a vs := by
  exact (t.keep a _ h (S.noTup h)).1
theorem Rl.stp {K : Kw} {H H' : Hp} {M M' : Hm} (S : Sim K H M) (t : Stp H M H' M') {a : Addr} {vs : List V} (h : Rl K H a vs) : Rl K H' a vs := by
  rcases h with ⟨o, h⟩ | h
  · exact .inl ⟨o, (t.keep a _ h (S.noRol h)).1⟩
  · exact .inr h
mutual
theorem Rel.stp {K : Kw} {H H' : Hp} {M M' : Hm} (S : Sim K H M) (t : Stp H M H' M') {v : V} {u : U} (h : Rel K H v u) : Rel K H' v u := by
  cases h with
  | non => exact .non
  | bl b => exact .bl b
  | int i => exact .int i
  | str x => exact .str x
  | tup h1 h2 => exact .tup (h1.stp S t) (h2.stp S t)
  | rol h1 h2 => exact .rol (h1.stp S t) (h2.stp S t)
  | ref a => exact .ref a
  | dtp h1 h2 => exact .dtp (h1.stp S t) (h2.stp S t)
theorem RelL.stp {K : Kw} {H H' : Hp} {M M' : Hm} (S : Sim K H M) (t : Stp H M H' M') {v : List V} {u : List U} (h : RelL K H v u) : RelL K H' v u := by
  cases h with
  | nil => exact .nil
  | cons h1 h2 => exact .cons (h1.stp S t) (h2.stp S t)
end
end Pl

set_option maxHeartbeats 4000000
/-! the syntax and what it asks -/
namespace Pl
open PySem L2

inductive Bop where | add | sub | mul | fdiv | mod | pow | shl | shr | band | bor
  deriving DecidableEq
inductive Cop where | eq | ne | lt | le | gt | ge | isin | notin
  deriving DecidableEq
/-- built-in functions and classes that are called -/
inductive Bfn where | len | list | tuple | int | abs | max | min | sorted | sum | all | any | set | str | dict | bool | tupd
  deriving DecidableEq
/-- methods of built-in types -/
inductive Mfn where | append | extend | pop | popAt | split | get1 | get2 | setdefault | index | join | insert | remove | items | pop2 | isalpha | islower | replace
  deriving DecidableEq
/-- targets: one name, a flat tuple of names -/
inductive Tg where | one (i : Nat) | many (is : List Nat)
  deriving DecidableEq
def Tg.slots : Tg → List Nat
  | .one i => [i]
  | .many is => is

inductive E where
  | var (i : Nat) | int (i : Int) | str (x : Str) | bl (b : Bool) | non
  | nil | cons (a b : E)
  | tup (es : E) | lst (es : E) | dnew (t : Bool) | dnewN | dtup (es : E)
  | bin (op : Bop) (a b : E) | neg (a : E)
  | cmp (op : Cop) (a b : E) | chain (o1 o2 : Cop) (a b c : E)
  | isN (a : E) | notN (a : E) | isB (neg b : Bool) (a : E)
  | ands (es : E) | ors (es : E) | not (a : E) | ite (c a b : E)
  | ix (a i : E) | dget (o k d : E) | dget1 (o k : E) | slice (a lo hi : E)
  | call (f : Nat) (es : E) | blt (f : Bfn) (es : E) | mth (m : Mfn) (o es : E) | isinst (a : E) (t : String)
  | comp (own : List (Str × Nat)) (tg : Tg) (it c elt : E) | dcompN (own : List (Str × Nat)) (tg : Tg) (it c k v : E)
  | fld (f : Str) (o : E) | meth (c m : Str) (f : Nat) (o es : E) | make (c : Str) (f : Nat) (es : E) | prop (c m : Str) (f : Nat) (o : E)
  | setdef (o k d : E) | lrng (t : Bool) (a b : E) | tidx (o e : E) | gint (x : Str) (i : Int) | gstr (x s : Str)
  | iSeq (a : E) | iRange (a : E) | iRange2 (a b : E) | iEnum (a : E) | iKeys (a : E) | iRev (a : E)
  deriving DecidableEq

inductive S where
  | skip | seq (a b : S)
  | asg (i : Nat) (e : E) | asgT (is : List Nat) (e : E) | asgU (is : List Nat) (e : E) | par (i j : Nat) (a b : E)
  | setF (c f : Str) (o e : E)
  | setIx (o i e : E) | augV (i : Nat) (op : Bop) (e : E) | augIx (o i : E) (op : Bop) (e : E)
  | ifs (c : E) (a b : S) | for_ (tg : Tg) (it : E) (b : S) | whl (c : E) (b : S)
  | ret (e : E) | retN | brk | cnt | expr (e : E) | nvr
  deriving DecidableEq

abbrev SU := List (Option U)
abbrev QU := U → Hm → Prop
abbrev WE := SU → Hm → QU → Prop
abbrev WT := SU → Hm → (Bool → Hm → Prop) → Prop
abbrev WL := SU → Hm → (List U → Hm → Prop) → Prop
abbrev WO := SU → Hm → (Option Int → Hm → Prop) → Prop
/-- what is walked: its items, what must stay, how an exit is reached -/
abbrev WI := SU → Hm → (List U → (Hm → Prop) → ((Hm → Prop) → Hm → Prop) → Hm → Prop) → Prop

def LIM : Nat := 100000

/-! ### data -/
def okS (x : Str) : Bool := x.cps.all (· < 0x110000)
def U.ok : Nat → U → Bool
  | _, .non => true
  | _, .int _ => true
  | _, .str x => okS x
  | n + 1, .tup l => l.all (U.ok n)
  | _, _ => false
def okU (x : U) : Bool := x.ok 60
def okL (l : List U) : Bool := l.all (U.ok 59)

def eqW (x y : U) (M : Hm) (Q : Bool → Hm → Prop) : Prop := match x, y with
  | .bl a, .bl b => Q (a == b) M
  | .int a, .int b => Q (decide (a = b)) M
  | .str a, .str b => Q (decide (a = b)) M
  | .ref p, .ref q => ∃ us ws, M p = some (.lst us) ∧ M q = some (.lst ws) ∧ okL us = true ∧ okL ws = true ∧ Q (decide (us = ws)) M
  | x, y => okU x = true ∧ okU y = true ∧ Q (decide (x = y)) M

def dfind (ks : List (U × U)) (k : U) : Option U := (ks.find? fun p => decide (p.1 = k)).map (·.2)
/-- one entry taken out -/
def ddrop (ks : List (U × U)) (k : U) : List (U × U) := ks.filter fun p => !decide (p.1 = k)
def dput (ks : List (U × U)) (k v : U) : List (U × U) := if (dfind ks k).isSome = true then ks.map fun p => if p.1 = k then (p.1, v) else p else ks ++ [(k, v)]
/-- a key of ints and texts | of tuples of such -/
def isKey : U → Bool
  | .int _ => true
  | .str _ => true
  | _ => false
def isKeyT : U → Bool
  | .tup l => l.all isKey
  | _ => false
def keyFor (t : Bool) (k : U) : Bool := match t with
  | true => isKeyT k
  | false => isKey k

def inW (neg : Bool) (x y : U) (M : Hm) (Q : Bool → Hm → Prop) : Prop := match y with
  | .tup l => okU x = true ∧ okL l = true ∧ (l.all isKey = true ∧ isKey x = true) ∧ Q (if neg then !decide (x ∈ l) else decide (x ∈ l)) M
  | .dtp l => (l.all isKey = true ∧ isKey x = true) ∧ Q (if neg then !decide (x ∈ l) else decide (x ∈ l)) M
  | .ref p => (∃ us, M p = some (.lst us) ∧ okU x = true ∧ okL us = true ∧ Q (if neg then !decide (x ∈ us) else decide (x ∈ us)) M) ∨
      (∃ z t ks, M p = some (.dct z t ks) ∧ keyFor t x = true ∧ Q (if neg then !(dfind ks x).isSome else (dfind ks x).isSome) M) ∨
      ∃ ks, M p = some (.dcn ks) ∧ isKeyN x = true ∧ Q (if neg then !(dfind ks x).isSome else (dfind ks x).isSome) M
  | _ => False

def cmpW (op : Cop) (x y : U) (M : Hm) (Q : Bool → Hm → Prop) : Prop := match op with
  | .eq => eqW x y M Q
  | .ne => eqW x y M fun b M => Q (!b) M
  | .lt => (match x, y with | .int i, .int j => Q (decide (i < j)) M | _, _ => False)
  | .le => (match x, y with | .int i, .int j => Q (decide (i ≤ j)) M | _, _ => False)
  | .gt => (match x, y with | .int i, .int j => Q (decide (j < i)) M | _, _ => False)
  | .ge => (match x, y with | .int i, .int j => Q (decide (j ≤ i)) M | _, _ => False)
  | .isin => inW false x y M Q
  | .notin => inW true x y M Q

def binW (op : Bop) (x y : U) (M : Hm) (Q : QU) : Prop := match op, x, y with
  | .add, .int i, .int j => Q (.int (i + j)) M
  | .sub, .int i, .int j => Q (.int (i - j)) M
  | .mul, .int i, .int j => CMul i j ∧ Q (.int (i * j)) M
  | .fdiv, .int i, .int j => CDiv i j ∧ Q (.int (i / j)) M
  | .mod, .int i, .int j => 0 < j ∧ Q (.int (i % j)) M
  | .pow, .int i, .int j => CPow i j ∧ Q (.int (i ^ j.toNat)) M
  | .shl, .int i, .int j => CPow i j ∧ Q (.int (i * 2 ^ j.toNat)) M
  | .shr, .int i, .int j => 0 ≤ j ∧ Q (.int (i / 2 ^ j.toNat)) M
  | .band, .int i, .int j => Q (.int (Builtin.bitAnd i j)) M
  | .bor, .int i, .int j => Q (.int (Builtin.bitOr i j)) M
  | .add, .str a, .str b => a.length + b.length ≤ LIM ∧ Q (.str (a ++ b)) M
  | .add, .tup a, .tup b => a.length + b.length ≤ LIM ∧ Q (.tup (a ++ b)) M
  | .mul, .ref p, .int k => ∃ us, M p = some (.lst us) ∧ -LIM ≤ k ∧ k ≤ LIM ∧ us.length * k.toNat ≤ LIM ∧ ∀ a, M a = none → Q (.ref a) (um M a (.lst (List.replicate k.toNat us).flatten))
  | .add, .ref p, .ref q => ∃ us ws, M p = some (.lst us) ∧ M q = some (.lst ws) ∧ us.length + ws.length ≤ LIM ∧ ∀ a, M a = none → Q (.ref a) (um M a (.lst (us ++ ws)))
  | _, _, _ => False

def truW (x : U) (M : Hm) (Q : Bool → Hm → Prop) : Prop := match x with
  | .bl b => Q b M
  | .int i => Q (i != 0) M
  | .str s => s.length ≤ LIM ∧ Q (s.length != 0) M
  | .non => Q false M
  | .tup l => Q (!l.isEmpty) M
  | .ref p => (∃ us, M p = some (.lst us) ∧ Q (!us.isEmpty) M) ∨ ∃ ks, M p = some (.dct false false ks) ∧ Q (!ks.isEmpty) M
  | .rol _ => False
  | .dtp l => Q (!l.isEmpty) M

def ixW (x i : U) (M : Hm) (Q : QU) : Prop := match x with
  | .dtp l => ∃ j v, i = .int j ∧ atI l j = some v ∧ Q v M
  | .tup l => ∃ j v, i = .int j ∧ atI l j = some v ∧ Q v M
  | .ref p => (∃ us j v, M p = some (.lst us) ∧ i = .int j ∧ atI us j = some v ∧ Q v M) ∨ (∃ z t ks v, M p = some (.dct z t ks) ∧ keyFor t i = true ∧ dfind ks i = some v ∧ Q v M) ∨
      ∃ ks v, M p = some (.dcn ks) ∧ isKeyN i = true ∧ dfind ks i = some v ∧ Q v M
  | .str z => ∃ j c, i = .int j ∧ z.length ≤ LIM ∧ atI z.cps.toList j = some c ∧ Q (.str ⟨#[c]⟩) M
  | _ => False
/-- d.get(k, x) -/
def isDW (x : U) (M : Hm) : Prop := ∃ p z t ks, x = .ref p ∧ M p = some (.dct z t ks)
def dgetW (x y v : U) (M : Hm) (Q : QU) : Prop := ∃ p z t ks, x = .ref p ∧ M p = some (.dct z t ks) ∧ keyFor t y = true ∧ Q ((dfind ks y).getD v) M
/-- d.setdefault(k, x) -/
def setdefW (x y v : U) (M : Hm) (Q : QU) : Prop := ∃ p ks, x = .ref p ∧ M p = some (.dct false false ks) ∧ isKey y = true ∧ ks.length < LIM ∧
  (match dfind ks y with
  | some u => Q u M
  | none => Q v (um M p (.dct false false (dput ks y v))))
/-- t.index(x) of a tuple of texts -/
def tidxW (x y : U) (M : Hm) (Q : QU) : Prop := ∃ (ys : List Str) (z : Str) (j : Nat), x = .dtp (ys.map U.str) ∧ y = .str z ∧ ys[j]? = some z ∧ (∀ m, m < j → ys[m]? ≠ some z) ∧ Q (.int (j : Nat)) M
/-- a field set -/
def fput (f : Str) (v : U) : List (Str × U) → List (Str × U)
  | [] => [(f, v)]
  | (g, x) :: r => if g = f then (g, v) :: r else (g, x) :: fput f v r
/-- what an augmented store reads -/
def getW (x i : U) (M : Hm) (Q : QU) : Prop := match x with
  | .ref p => (∃ us j v, M p = some (.lst us) ∧ i = .int j ∧ atI us j = some v ∧ Q v M) ∨ ∃ z t ks v, M p = some (.dct z t ks) ∧ keyFor t i = true ∧ dfind ks i = some v ∧ Q v M
  | _ => False
def cutU {α : Type} (xs : List α) (lo hi : Option Int) : List α := (xs.drop (HT.sIx xs.length 0 lo)).take (HT.sIx xs.length xs.length hi - HT.sIx xs.length 0 lo)
def sliceW (x : U) (lo hi : Option Int) (M : Hm) (Q : QU) : Prop := match x with
  | .tup l => Q (.tup (cutU l lo hi)) M
  | .ref p => ∃ us, M p = some (.lst us) ∧ ∀ a, M a = none → Q (.ref a) (um M a (.lst (cutU us lo hi)))
  | _ => False
def setW (x i v : U) (M : Hm) (Q : Hm → Prop) : Prop := match x with
  | .ref p => (∃ us j k, M p = some (.lst us) ∧ i = .int j ∧ ixN us.length j = some k ∧ Q (um M p (.lst (us.set k v)))) ∨
      (∃ t ks, M p = some (.dct false t ks) ∧ keyFor t i = true ∧ ks.length < LIM ∧ Q (um M p (.dct false t (dput ks i v)))) ∨
      ∃ ks, M p = some (.dcn ks) ∧ isKeyN i = true ∧ ks.length < LIM ∧ Q (um M p (.dcn (dput ks i v)))
  | _ => False

mutual
def pd : U → PyData
  | .non => .none
  | .bl b => .bool b
  | .int i => .int i
  | .str x => .str x
  | .tup l => .tuple (pdL l)
  | .ref _ => .none
  | .rol _ => .none
  | .dtp _ => .none
def pdL : List U → List PyData
  | [] => []
  | x :: xs => pd x :: pdL xs
end
theorem pdL_map : ∀ l : List U, pdL l = l.map pd
  | [] => rfl
  | x :: xs => by rw [pdL, pdL_map xs]; rfl
/-- what can be put in order -/
def sortOk (us : List U) : Prop := okL us = true ∧ W.AllAlike (us.map pd) ∧ W.Sortable (us.map pd) ∧ us.length ≤ LIM
def sortU (us : List U) : List U := us.mergeSort (W.dataLe false pd)
def bltW (f : Bfn) (xs : List U) (M : Hm) (Q : QU) : Prop := match f, xs with
  | .len, [.tup l] => Q (.int l.length) M
  | .len, [.str s] => s.length ≤ LIM ∧ Q (.int s.length) M
  | .len, [.ref p] => (∃ us, M p = some (.lst us) ∧ Q (.int us.length) M) ∨ ∃ ks, M p = some (.dct false false ks) ∧ Q (.int ks.length) M
  | .list, [.tup l] => ∀ a, M a = none → Q (.ref a) (um M a (.lst l))
  | .list, [.ref p] => (∃ us, M p = some (.lst us) ∧ ∀ a, M a = none → Q (.ref a) (um M a (.lst us))) ∨
      (∃ ks, M p = some (.dct false false ks) ∧ ∀ a, M a = none → Q (.ref a) (um M a (.lst (ks.map (·.1))))) ∨
      ∃ ks, M p = some (.dcn ks) ∧ ∀ a, M a = none → Q (.ref a) (um M a (.lst (ks.map (·.1))))
  | .tuple, [.tup l] => Q (.tup l) M
  | .tupd, [.ref p] => ∃ us, M p = some (.lst us) ∧ Q (.dtp us) M
  | .dict, [.ref p] => ∃ ks, M p = some (.dct false false ks) ∧ ∀ a, M a = none → Q (.ref a) (um M a (.dct false false ks))
  | .len, [.dtp l] => Q (.int l.length) M
  | .list, [.dtp l] => ∀ a, M a = none → Q (.ref a) (um M a (.lst l))
  | .tuple, [.dtp l] => Q (.dtp l) M
  | .tuple, [.ref p] => ∃ us, M p = some (.lst us) ∧ Q (.tup us) M
  | .int, [.int i] => Q (.int i) M
  | .int, [.bl b] => Q (.int (if b then 1 else 0)) M
  | .abs, [.int i] => Q (.int (if i < 0 then -i else i)) M
  | .max, [.int i, .int j] => Q (.int (if j > i then j else i)) M
  | .sorted, [.ref p] => (∃ us, M p = some (.lst us) ∧ sortOk us ∧ ∀ a, M a = none → Q (.ref a) (um M a (.lst (sortU us)))) ∨ (∃ t ks, M p = some (.dct false t ks) ∧ sortOk (ks.map (·.1)) ∧ ∀ a, M a = none → Q (.ref a) (um M a (.lst (sortU (ks.map (·.1)))))) ∨ ∃ ks, M p = some (.dcn ks) ∧ sortOk (ks.map (·.1)) ∧ ∀ a, M a = none → Q (.ref a) (um M a (.lst (sortU (ks.map (·.1)))))
  | .sum, [.ref p] => ∃ ns : List Int, M p = some (.lst (ns.map U.int)) ∧ Q (.int ns.sum) M
  | .all, [.ref p] => ∃ bs : List Bool, M p = some (.lst (bs.map U.bl)) ∧ Q (.bl (bs.all id)) M
  | .any, [.ref p] => ∃ bs : List Bool, M p = some (.lst (bs.map U.bl)) ∧ Q (.bl (bs.any id)) M
  | .max, [.ref p] => ∃ (ns : List Int), M p = some (.lst (ns.map U.int)) ∧ 0 < ns.length ∧ ∀ m, m ∈ ns → (∀ y, y ∈ ns → y ≤ m) → Q (.int m) M
  | .min, [.int i, .int j] => Q (.int (if j < i then j else i)) M
  | .min, [.ref p] => ∃ (ns : List Int), M p = some (.lst (ns.map U.int)) ∧ 0 < ns.length ∧ ∀ m, m ∈ ns → (∀ y, y ∈ ns → m ≤ y) → Q (.int m) M
  | _, _ => False

def mthW (m : Mfn) (o : U) (xs : List U) (M : Hm) (Q : QU) : Prop := match m, o, xs with
  | .append, .ref p, [x] => ∃ us, M p = some (.lst us) ∧ us.length < LIM ∧ Q .non (um M p (.lst (us ++ [x])))
  | .extend, .ref p, [.ref q] => ∃ us ws, M p = some (.lst us) ∧ M q = some (.lst ws) ∧ us.length + ws.length ≤ LIM ∧ Q .non (um M p (.lst (us ++ ws)))
  | .extend, .ref p, [.dtp l] => ∃ us, M p = some (.lst us) ∧ us.length + l.length ≤ LIM ∧ Q .non (um M p (.lst (us ++ l)))
  | .pop2, .ref p, [.tup l] => ∃ ks v, M p = some (.dct false true ks) ∧ isKeyT (.tup l) = true ∧ dfind ks (.tup l) = some v ∧ Q v (um M p (.dct false true (ddrop ks (.tup l))))
  | .pop2, .ref p, [.tup l, d] => ∃ ks, M p = some (.dct false true ks) ∧ isKeyT (.tup l) = true ∧ (match dfind ks (.tup l) with | some v => Q v (um M p (.dct false true (ddrop ks (.tup l)))) | none => Q d M)
  | .pop, .ref p, [] => ∃ us x, M p = some (.lst us) ∧ us[us.length - 1]? = some x ∧ Q x (um M p (.lst us.dropLast))
  | .popAt, .ref p, [.int i] => ∃ us k x, M p = some (.lst us) ∧ us.length ≤ LIM ∧ ixN us.length i = some k ∧ us[k]? = some x ∧ Q x (um M p (.lst (us.eraseIdx k)))
  | .index, .ref p, [x] => ∃ us j, M p = some (.lst us) ∧ okU x = true ∧ okL us = true ∧ us[j]? = some x ∧ (∀ m, m < j → us[m]? ≠ some x) ∧ Q (.int (j : Nat)) M
  | .split, .str a, [.str b] => (b.length == 0) = false ∧ a.length + 2 ≤ LIM ∧ ∀ p, M p = none → Q (.ref p) (um M p (.lst ((Txt.split a b).map U.str)))
  | _, _, _ => False
/-- the receiver is of the method's type -/
def rcvW (m : Mfn) (x : U) (M : Hm) : Prop := match m with
  | .append | .extend | .pop | .popAt | .index => ∃ p us, x = .ref p ∧ M p = some (.lst us)
  | .split => ∃ s, x = .str s
  | .pop2 => ∃ p ks, x = .ref p ∧ M p = some (.dct false true ks)
  | _ => False
def isTyW (x : U) (t : String) (M : Hm) (Q : Bool → Hm → Prop) : Prop := match x with
  | .non => Q (t == "NoneType") M
  | .bl _ => Q (t == "bool" || t == "int") M
  | .int _ => Q (t == "int") M
  | .str _ => Q (t == "str") M
  | .tup _ => Q (t == "tuple") M
  | .dtp _ => Q (t == "tuple") M
  | .ref p => ∃ us, M p = some (.lst us) ∧ Q (t == "list") M
  | .rol _ => False

/-! ### loops -/
/-- the slots of these forgotten -/
def wipU (σ : SU) : List Nat → SU
  | [] => σ
  | v :: vs => (wipU σ vs).set v none
def setAll : List Nat → List U → SU → Option SU
  | [], [], σ => some σ
  | i :: is, u :: us, σ => setAll is us (σ.set i (some u))
  | _, _, _ => none
def tgW (tg : Tg) (x : U) (σ : SU) (Q : SU → Prop) : Prop := match tg with
  | .one i => Q (σ.set i (some x))
  | .many is => ∃ l σ', x = .tup l ∧ setAll is l σ = some σ' ∧ Q σ'
def forL (step : U → (SU → Hm → Prop) → SU → Hm → Prop) (g : Hm → Prop) (fin : SU → Hm → Prop) : List U → SU → Hm → Prop
  | [], σ, M => fin σ M
  | x :: xs, σ, M => step x (fun σ' M' => g M' ∧ forL step g fin xs σ' M') σ M
def compL (step : U → (Option U → Hm → Prop) → Hm → Prop) (g : Hm → Prop) (fin : List U → Hm → Prop) : List U → List U → Hm → Prop
  | [], acc, M => fin acc M
  | x :: xs, acc, M => step x (fun o M' => g M' ∧ (o.isSome = true → acc.length < LIM) ∧ compL step g fin xs (acc ++ o.toList) M') M

/-! ### expressions -/
structure Wp where
  e : WE
  t : WT
  l : WL
  /-- a row of conditions: the tests by and, by or; the values by and, by or -/
  ta : WT
  to : WT
  va : WE
  vo : WE
  i : WI
def fE : WE := fun _ _ _ => False
def fT : WT := fun _ _ _ => False
def fI : WI := fun _ _ _ => False
/-- an expression whose test is its value's truth -/
def Wp.ofE (f : WE) : Wp := ⟨f, fun σ M Q => f σ M fun x M1 => truW x M1 Q, fun _ _ _ => False, fT, fT, fE, fE, fI⟩
/-- a comparison and its like: the value a bool -/
def Wp.ofB (f : WT) : Wp := ⟨fun σ M Q => f σ M fun b M1 => Q (.bl b) M1, f, fun _ _ _ => False, fT, fT, fE, fE, fI⟩
/-- never a test -/
def Wp.noT (f : WE) : Wp := ⟨f, fT, fun _ _ _ => False, fT, fT, fE, fE, fI⟩
def Wp.ofI (f : WI) : Wp := ⟨fE, fT, fun _ _ _ => False, fT, fT, fE, fE, f⟩
def bW (f : WE) (σ : SU) (M : Hm) (Q : Bool → Hm → Prop) : Prop := f σ M fun x M1 => ∃ b, x = .bl b ∧ Q b M1
def isNil : E → Bool
  | .nil => true
  | _ => false
def partW (e : E) (f : WE) : WO := fun σ M Q => if isNil e = true then Q none M else f σ M fun x M1 => ∃ i, x = .int i ∧ Q (some i) M1

/-- how the callees keep their promises -/
abbrev CE := Nat → List U → Hm → QU → Prop

def seqI (x : U) (M : Hm) (Q : List U → (Hm → Prop) → ((Hm → Prop) → Hm → Prop) → Hm → Prop) : Prop := match x with
  | .tup l => Q l (fun _ => True) (fun P => P) M
  | .rol l => Q l (fun _ => True) (fun P => P) M
  | .dtp l => Q l (fun _ => True) (fun P => P) M
  | .ref p => ∃ us, M p = some (.lst us) ∧ Q us (fun M' => M' p = some (.lst us)) (fun P => P) M
  | _ => False
def revI (x : U) (M : Hm) (Q : List U → (Hm → Prop) → ((Hm → Prop) → Hm → Prop) → Hm → Prop) : Prop := match x with
  | .tup l => Q l.reverse (fun _ => True) (fun P => P) M
  | .dtp l => Q l.reverse (fun _ => True) (fun P => P) M
  | .ref p => ∃ us, M p = some (.lst us) ∧ Q us.reverse (fun M' => M' p = some (.lst us)) (fun P => P) M
  | _ => False
def enumU (l : List U) : List U := l.zipIdx.map fun p => .tup [.int (p.2 : Nat), p.1]
def rngU (a b : Int) : List U := (List.range (b - a).toNat).map fun i => .int (a + (i : Nat))

/-- a comprehension over what is walked -/
def compW (fi : WI) (tg : Tg) (fc : WT) (fe : WE) : WE := fun σ M Q => fi σ M fun items g ex M1 =>
  compL (fun x k M => tgW tg x (wipU σ tg.slots) fun σ2 => fc σ2 M fun b M2 => if b = true then fe σ2 M2 fun y M3 => k (some y) M3 else k none M2)
    g (fun acc M => ex (fun M => ∀ p, M p = none → Q (.ref p) (um M p (.lst acc))) M) items [] M1

/-- a dict of what is walked, its keys nested -/
def dcompL (step : U → (Hm → Prop) → Hm → Prop) (g : Hm → Prop) (fin : Hm → Prop) : List U → Hm → Prop
  | [], M => fin M
  | x :: xs, M => step x (fun M' => g M' ∧ dcompL step g fin xs M') M
def dsetN (p : Addr) (y z : U) (M : Hm) (k : Hm → Prop) : Prop := ∃ ks, M p = some (.dcn ks) ∧ isKeyN y = true ∧ ks.length < LIM ∧ k (um M p (.dcn (dput ks y z)))
abbrev dstepW (tg : Tg) (fc : WT) (fk fv : WE) (σ : SU) (p : Addr) : U → (Hm → Prop) → Hm → Prop := fun x k M => tgW tg x (wipU σ tg.slots) fun σ2 => fc σ2 M fun b M2 => if b = true then fk σ2 M2 fun y M3 => fv σ2 M3 fun z M4 => dsetN p y z M4 k else k M2
def dcompW (fi : WI) (tg : Tg) (fc : WT) (fk fv : WE) : WE := fun σ M Q => fi σ M fun items g ex M1 => ∀ p, M1 p = none → g (um M1 p (.dcn [])) ∧ dcompL (dstepW tg fc fk fv σ p) g (fun M => ex (fun M => Q (.ref p) M) M) items (um M1 p (.dcn []))

def w (C : CE) : E → Wp
  | .var i => .ofE fun σ M Q => ∃ u, σ[i]? = some (some u) ∧ Q u M
  | .int i => .ofE fun _ M Q => Q (.int i) M
  | .str x => .ofE fun _ M Q => Q (.str x) M
  | .bl b => .ofE fun _ M Q => Q (.bl b) M
  | .non => .ofE fun _ M Q => Q .non M
  | .nil => ⟨fE, fT, fun _ M Q => Q [] M, fun _ M Q => Q true M, fun _ M Q => Q false M, fE, fE, fI⟩
  | .cons a b => ⟨fE, fT, fun σ M Q => (w C a).e σ M fun x M1 => (w C b).l σ M1 fun xs M2 => Q (x :: xs) M2,
      if isNil b = true then (w C a).t else fun σ M Q => (w C a).t σ M fun c M1 => if c = true then (w C b).ta σ M1 Q else Q false M1,
      if isNil b = true then (w C a).t else fun σ M Q => (w C a).t σ M fun c M1 => if c = true then Q true M1 else (w C b).to σ M1 Q,
      if isNil b = true then (w C a).e else fun σ M Q => bW (w C a).e σ M fun c M1 => if c = true then (w C b).va σ M1 Q else Q (.bl false) M1,
      if isNil b = true then (w C a).e else fun σ M Q => bW (w C a).e σ M fun c M1 => if c = true then Q (.bl true) M1 else (w C b).vo σ M1 Q, fI⟩
  | .tup es => .ofE fun σ M Q => (w C es).l σ M fun xs M1 => xs.length ≤ LIM ∧ Q (.tup xs) M1
  | .dtup es => .ofE fun σ M Q => (w C es).l σ M fun xs M1 => xs.length ≤ LIM ∧ Q (.dtp xs) M1
  | .lst es => .ofE fun σ M Q => (w C es).l σ M fun xs M1 => xs.length ≤ LIM ∧ ∀ p, M1 p = none → Q (.ref p) (um M1 p (.lst xs))
  | .dnewN => .ofE fun _ M Q => ∀ p, M p = none → Q (.ref p) (um M p (.dcn []))
  | .dnew t => .ofE fun _ M Q => ∀ p, M p = none → Q (.ref p) (um M p (.dct false t []))
  | .bin op a b => .ofE fun σ M Q => (w C a).e σ M fun x M1 => (w C b).e σ M1 fun y M2 => binW op x y M2 Q
  | .neg a => .ofE fun σ M Q => (w C a).e σ M fun x M1 => ∃ i, x = .int i ∧ Q (.int (-i)) M1
  | .cmp op a b => .ofB fun σ M Q => (w C a).e σ M fun x M1 => (w C b).e σ M1 fun y M2 => cmpW op x y M2 Q
  | .chain o1 o2 a b c => .ofB fun σ M Q => (w C a).e σ M fun x M1 => (w C b).e σ M1 fun y M2 => cmpW o1 x y M2 fun k M3 =>
      if k = true then (w C c).e σ M3 fun z M4 => cmpW o2 y z M4 Q else Q false M3
  | .isN a => .ofB fun σ M Q => (w C a).e σ M fun x M1 => Q (decide (x = .non)) M1
  | .notN a => .ofB fun σ M Q => (w C a).e σ M fun x M1 => Q (!decide (x = .non)) M1
  | .isB neg b a => .ofB fun σ M Q => (w C a).e σ M fun x M1 => ∃ c, x = .bl c ∧ Q (if neg then !decide (c = b) else decide (c = b)) M1
  | .ands es => ⟨(w C es).va, (w C es).ta, fun _ _ _ => False, fT, fT, fE, fE, fI⟩
  | .ors es => ⟨(w C es).vo, (w C es).to, fun _ _ _ => False, fT, fT, fE, fE, fI⟩
  | .not a => ⟨fun σ M Q => (w C a).e σ M fun x M1 => truW x M1 fun b M2 => Q (.bl (!b)) M2, fun σ M Q => (w C a).t σ M fun b M1 => Q (!b) M1, fun _ _ _ => False, fT, fT, fE, fE, fI⟩
  | .ite c a b => .noT fun σ M Q => (w C c).t σ M fun k M1 => if k = true then (w C a).e σ M1 Q else (w C b).e σ M1 Q
  | .ix a i => .ofE fun σ M Q => (w C a).e σ M fun x M1 => (w C i).e σ M1 fun y M2 => ixW x y M2 Q
  | .dget o k d => .ofE fun σ M Q => (w C o).e σ M fun x M1 => isDW x M1 ∧ (w C k).e σ M1 fun y M2 => (w C d).e σ M2 fun v M3 => dgetW x y v M3 Q
  | .dget1 o k => .ofE fun σ M Q => (w C o).e σ M fun x M1 => isDW x M1 ∧ (w C k).e σ M1 fun y M2 => dgetW x y .non M2 Q
  | .slice a lo hi => .ofE fun σ M Q => (w C a).e σ M fun x M1 => partW lo (w C lo).e σ M1 fun l M2 => partW hi (w C hi).e σ M2 fun h M3 => sliceW x l h M3 Q
  | .call f es => .ofE fun σ M Q => (w C es).l σ M fun xs M1 => C f xs M1 Q
  | .blt f es => .ofE fun σ M Q => (w C es).l σ M fun xs M1 => bltW f xs M1 Q
  | .mth m o es => .ofE fun σ M Q => (w C o).e σ M fun x M1 => rcvW m x M1 ∧ (w C es).l σ M1 fun xs M2 => mthW m x xs M2 Q
  | .isinst a t => .ofB fun σ M Q => (w C a).e σ M fun x M1 => isTyW x t M1 Q
  | .comp _ tg it c elt => .ofE (compW (w C it).i tg (if isNil c = true then fun _ M Q => Q true M else (w C c).t) (w C elt).e)
  | .dcompN _ tg it c k v => .ofE (dcompW (w C it).i tg (if isNil c = true then fun _ M Q => Q true M else (w C c).t) (w C k).e (w C v).e)
  | .fld f o => .ofE fun σ M Q => (w C o).e σ M fun x M1 => ∃ p c fs v, x = .ref p ∧ M1 p = some (.obj c fs) ∧ fs.lookup f = some v ∧ Q v M1
  | .meth c m f o es => .ofE fun σ M Q => (w C o).e σ M fun x M1 => (∃ p fs, x = .ref p ∧ M1 p = some (.obj c fs) ∧ fs.lookup m = none) ∧ (w C es).l σ M1 fun xs M2 => C f (x :: xs) M2 Q
  | .make c f es => .ofE fun σ M Q => (w C es).l σ M fun xs M1 => ∀ p, M1 p = none → C f (.ref p :: xs) (um M1 p (.obj c [])) fun u M2 => u = .non ∧ Q (.ref p) M2
  | .prop c _ f o => .ofE fun σ M Q => (w C o).e σ M fun x M1 => (∃ p fs, x = .ref p ∧ M1 p = some (.obj c fs)) ∧ C f [x] M1 Q
  | .setdef o k d => .ofE fun σ M Q => (w C o).e σ M fun x M1 => isDW x M1 ∧ (w C k).e σ M1 fun y M2 => (w C d).e σ M2 fun v M3 => setdefW x y v M3 Q
  | .lrng t a b => .ofE fun σ M Q => partW a (w C a).e σ M fun lo M1 => (w C b).e σ M1 fun y M2 => ∃ n, y = .int n ∧ n ≤ LIM ∧ -LIM ≤ n ∧ lo.getD 0 ≤ LIM ∧ -LIM ≤ lo.getD 0 ∧
      if t = true then Q (.tup (rngU (lo.getD 0) n)) M2 else ∀ p, M2 p = none → Q (.ref p) (um M2 p (.lst (rngU (lo.getD 0) n)))
  | .tidx o e => .ofE fun σ M Q => (w C o).e σ M fun x M1 => (∃ l, x = .dtp l) ∧ (w C e).e σ M1 fun y M2 => tidxW x y M2 Q
  | .gint _ i => .ofE fun _ M Q => Q (.int i) M
  | .gstr _ s => .ofE fun _ M Q => Q (.str s) M
  | .iSeq a => .ofI fun σ M Q => (w C a).e σ M fun x M1 => seqI x M1 Q
  | .iRange a => .ofI fun σ M Q => (w C a).e σ M fun x M1 => ∃ n, x = .int n ∧ n ≤ LIM ∧ -LIM ≤ n ∧ Q (rngU 0 n) (fun _ => True) (fun P => P) M1
  | .iRange2 a b => .ofI fun σ M Q => (w C a).e σ M fun x M1 => (w C b).e σ M1 fun y M2 => ∃ m n, x = .int m ∧ y = .int n ∧ -LIM ≤ m ∧ m ≤ LIM ∧ n ≤ LIM ∧ -LIM ≤ n ∧ Q (rngU m n) (fun _ => True) (fun P => P) M2
  | .iRev a => .ofI fun σ M Q => (w C a).e σ M fun x M1 => revI x M1 Q
  | .iEnum a => .ofI fun σ M Q => (w C a).e σ M fun x M1 => seqI x M1 fun us g ex M2 => Q (enumU us) g ex M2
  | .iKeys a => .ofI fun σ M Q => ∃ i d t ks, a = .var i ∧ σ[i]? = some (some (.ref d)) ∧ M d = some (.dct false t ks) ∧
      Q (ks.map (·.1)) (fun M' => M' d = some (.dct true t ks)) (fun P M' => M' d = some (.dct true t ks) ∧ P (um M' d (.dct false t ks))) (um M d (.dct true t ks))

/-! ### statements -/
structure EndsU where
  nx : SU → Hm → Prop
  rt : QU
  bk : SU → Hm → Prop := fun _ _ => False
  ct : SU → Hm → Prop := fun _ _ => False

def wS (C : CE) : S → EndsU → SU → Hm → Prop
  | .skip, D, σ, M => D.nx σ M
  | .seq a b, D, σ, M => wS C a { D with nx := wS C b D } σ M
  | .asg i e, D, σ, M => (w C e).e σ M fun x M1 => D.nx (σ.set i (some x)) M1
  | .asgT is e, D, σ, M => (w C e).e σ M fun x M1 => ∃ l σ', x = .tup l ∧ setAll is l σ = some σ' ∧ D.nx σ' M1
  | .asgU is e, D, σ, M => (w C e).e σ M fun x M1 => ∃ p l σ', x = .ref p ∧ M1 p = some (.lst l) ∧ setAll is l σ = some σ' ∧ D.nx σ' M1
  | .par i j a b, D, σ, M => (w C a).e σ M fun x M1 => (w C b).e σ M1 fun y M2 => D.nx ((σ.set i (some x)).set j (some y)) M2
  | .setF c f o e, D, σ, M => (w C e).e σ M fun v M1 => (w C o).e σ M1 fun x M2 => ∃ p fs, x = .ref p ∧ M2 p = some (.obj c fs) ∧ fs.length < 1000 ∧ D.nx σ (um M2 p (.obj c (fput f v fs)))
  | .setIx o i e, D, σ, M => (w C e).e σ M fun v M1 => (w C o).e σ M1 fun x M2 => (w C i).e σ M2 fun y M3 => setW x y v M3 (D.nx σ)
  | .augV i op e, D, σ, M => ∃ x, σ[i]? = some (some x) ∧ (w C e).e σ M fun y M1 => ∃ a b, x = .int a ∧ y = .int b ∧ binW op x y M1 fun z M2 => D.nx (σ.set i (some z)) M2
  | .augIx o i op e, D, σ, M => (w C o).e σ M fun x M1 => (w C i).e σ M1 fun y M2 => getW x y M2 fun v M3 => (w C e).e σ M3 fun z M4 => ∃ a b, v = .int a ∧ z = .int b ∧ binW op v z M4 fun r M5 => setW x y r M5 (D.nx σ)
  | .ifs c a b, D, σ, M => (w C c).t σ M fun k M1 => if k = true then wS C a D σ M1 else wS C b D σ M1
  | .for_ tg it b, D, σ, M => (w C it).i σ M fun items g ex M1 =>
      forL (fun x nx σ M => tgW tg x σ fun σ2 => wS C b ⟨nx, fun u M => ex (D.rt u) M, fun σ M => ex (D.nx σ) M, nx⟩ σ2 M) g (fun σ M => ex (D.nx σ) M) items σ M1
  | .whl c b, D, σ, M => ∃ W : Nat → SU → Hm → Prop, (∃ m, W m σ M) ∧ ∀ m σ M, W m σ M → (w C c).t σ M fun k M1 =>
      if k = true then wS C b ⟨fun σ' M' => ∃ m', m' < m ∧ W m' σ' M', D.rt, D.nx, fun σ' M' => ∃ m', m' < m ∧ W m' σ' M'⟩ σ M1 else D.nx σ M1
  | .ret e, D, σ, M => (w C e).e σ M D.rt
  | .retN, D, _, M => D.rt .non M
  | .brk, D, σ, M => D.bk σ M
  | .cnt, D, σ, M => D.ct σ M
  | .expr e, D, σ, M => (w C e).e σ M fun _ M1 => D.nx σ M1
  | .nvr, _, _, _ => False

/-- one def: its name, its parameters, all its names by slot, its body; a method's: its class, its name in full, whether it is a property's -/
structure Df where
  name : Str
  ps : List Str
  N : List Str
  b : S
  cls : Option Str := none
  qual : Str := name
  prp : Bool := false
/-- one class: its name, its __init__, its fields, its methods, its properties -/
structure Cd where
  name : Str
  init : Option Nat
  flds : List Str
  mets : List (Str × Nat)
  prps : List (Str × Nat)
def startU (n : Nat) (us : List U) : SU := us.map some ++ List.replicate (n - us.length) none
/-- what is forgotten does not harm -/
def Sub (M' M : Hm) : Prop := ∀ a o, M' a = some o → M a = some o
/-- the promises at depth k -/
def Cs (T : List Df) : Nat → CE
  | 0 => fun _ _ _ _ => False
  | k + 1 => fun f us M Q => ∃ d, T[f]? = some d ∧ us.length = d.ps.length ∧
      wS (Cs T k) d.b ⟨fun _ M' => ∃ M'', Sub M'' M' ∧ Q .non M'', fun u M' => ∃ M'', Sub M'' M' ∧ Q u M'', fun _ _ => False, fun _ _ => False⟩ (startU d.N.length us) M
end Pl

set_option maxHeartbeats 4000000
/-! operations by values keep what they are said to do -/
namespace Pl
open PySem L2
theorem lim_line : LIM < sizeLine := by rw [sizeLine_eq]; decide
theorem le_line {n : Nat} (h : n ≤ LIM) : n ≤ sizeLine := Nat.le_trans h (Nat.le_of_lt lim_line)
theorem lt_line {n : Nat} (h : n < LIM) : n < sizeLine := Nat.lt_trans h lim_line

section
variable {K : Kw} {H H' : Hp} {M M' : Hm}
theorem RelL.length {vs : List V} {us : List U} (h : RelL K H vs us) : vs.length = us.length := by
  induction vs generalizing us with
  | nil => cases h; rfl
  | cons v vs ih => cases h with
    | cons a b => rw [List.length_cons, List.length_cons, ih b]
theorem RelL.get {vs : List V} {us : List U} {i : Nat} {u : U} (h : RelL K H vs us) (e : us[i]? = some u) : ∃ v, vs[i]? = some v ∧ Rel K H v u := by
  induction vs generalizing us i with
  | nil => cases h; simp at e
  | cons v vs ih => cases h with
    | cons a b => cases i with
      | zero => simp at e; subst e; exact ⟨v, rfl, a⟩
      | succ i => obtain ⟨x, q, r⟩ := ih b (by simpa using e); exact ⟨x, by simpa using q, r⟩
theorem RelL.getV {vs : List V} {us : List U} {i : Nat} {v : V} (h : RelL K H vs us) (e : vs[i]? = some v) : ∃ u, us[i]? = some u ∧ Rel K H v u := by
  induction vs generalizing us i with
  | nil => simp at e
  | cons y vs ih => cases h with
    | cons a b => cases i with
      | zero => simp at e; subst e; exact ⟨_, rfl, a⟩
      | succ i => obtain ⟨x, q, r⟩ := ih b (by simpa using e); exact ⟨x, by simpa using q, r⟩
theorem RelL.append {vs ws : List V} {us xs : List U} (h : RelL K H vs us) (k : RelL K H ws xs) : RelL K H (vs ++ ws) (us ++ xs) := by
  induction vs generalizing us with
  | nil => cases h; exact k
  | cons v vs ih => cases h with
    | cons a b => exact .cons a (ih b)
theorem RelL.take {vs : List V} {us : List U} (n : Nat) (h : RelL K H vs us) : RelL K H (vs.take n) (us.take n) := by
  induction n generalizing vs us with
  | zero => exact .nil
  | succ n ih => cases h with
    | nil => exact .nil
    | cons a b => exact .cons a (ih b)
theorem RelL.drop {vs : List V} {us : List U} (n : Nat) (h : RelL K H vs us) : RelL K H (vs.drop n) (us.drop n) := by
  induction n generalizing vs us with
  | zero => exact h
  | succ n ih => cases h with
    | nil => exact .nil
    | cons a b => exact ih b
theorem RelL.set {vs : List V} {us : List U} {v : V} {u : U} (k : Nat) (r : Rel K H v u) (h : RelL K H vs us) : RelL K H (vs.set k v) (us.set k u) := by
  induction k generalizing vs us with
  | zero => cases h with
    | nil => exact .nil
    | cons a b => exact .cons r b
  | succ n ih => cases h with
    | nil => exact .nil
    | cons a b => exact .cons a (ih b)
theorem RelL.eraseIdx {vs : List V} {us : List U} (k : Nat) (h : RelL K H vs us) : RelL K H (vs.eraseIdx k) (us.eraseIdx k) := by
  induction k generalizing vs us with
  | zero => cases h with
    | nil => exact .nil
    | cons a b => exact b
  | succ n ih => cases h with
    | nil => exact .nil
    | cons a b => exact .cons a (ih b)
theorem RelL.dropLast {vs : List V} {us : List U} (h : RelL K H vs us) : RelL K H vs.dropLast us.dropLast := by
  rw [List.dropLast_eq_take, List.dropLast_eq_take, h.length]
  exact h.take _
theorem RelL.rep {vs : List V} {us : List U} (h : RelL K H vs us) : ∀ n : Nat, RelL K H (List.replicate n vs).flatten (List.replicate n us).flatten
  | 0 => .nil
  | n + 1 => by
    rw [List.replicate_succ, List.replicate_succ, List.flatten_cons, List.flatten_cons]
    exact h.append (RelL.rep h n)
theorem RelL.strs : ∀ xs : List Str, RelL K H (xs.map V.str) (xs.map U.str)
  | [] => .nil
  | x :: xs => .cons (.str x) (RelL.strs xs)
theorem RelL.nil_iff {vs : List V} {us : List U} (h : RelL K H vs us) : vs = [] ↔ us = [] := by
  cases h <;> simp
theorem RelL.isEmpty {vs : List V} {us : List U} (h : RelL K H vs us) : vs.isEmpty = us.isEmpty := by
  cases h <;> rfl

/-! ### how the heap grows -/
theorem Paired.mapR {α β : Type} {F G : α → β → Prop} {xs : List α} {ys : List β} (h : Paired F xs ys) (k : ∀ a b, F a b → G a b) : Paired G xs ys := by
  induction h with
  | nil => exact .nil
  | cons a _ ih => exact .cons (k _ _ a) ih
theorem OR.stp (S : Sim K H M) (t : Stp H M H' M') {a : Addr} {o : MO} (e : H' a = H a) (h : OR K H a o) : OR K H' a o := by
  cases o with
  | lst us =>
    obtain ⟨vs, q, r⟩ := h
    exact ⟨vs, by rw [e]; exact q, r.stp S t⟩
  | dct z tt ks =>
    cases tt with
    | false => obtain ⟨kvs, q, r⟩ := h; exact ⟨kvs, by rw [e]; exact q, Paired.mapR r fun p q x => ⟨x.1, x.2.stp S t⟩⟩
    | true => obtain ⟨kvs, q, r⟩ := h; exact ⟨kvs, by rw [e]; exact q, Paired.mapR r fun p q x => ⟨x.1, x.2.stp S t⟩⟩
  | dcn ks => obtain ⟨xs, q, r, r2⟩ := h; exact ⟨xs, by rw [e]; exact q, Paired.mapR r fun p q x => ⟨⟨x.1.1, x.1.2.1, x.1.2.2.stp S t⟩, x.2.elim fun v y => ⟨v, y.1, y.2.stp S t⟩⟩, r2⟩
  | obj c fs => obtain ⟨dx, vs, q, r, r2⟩ := h; exact ⟨dx, vs, by rw [e]; exact q, Paired.mapR r fun p q x => ⟨x.1, x.2.stp S t⟩, r2⟩
theorem Sim.to (S : Sim K H M) (t : Stp H M H' M') (h : ∀ a o, M' a = some o → (M a = some o ∧ H' a = H a) ∨ OR K H' a o) : Sim K H' M' := fun a o e => by
  rcases h a o e with ⟨e1, e2⟩ | q
  · exact (S a o e1).stp S t e2
  · exact q
theorem Stp.new {p : Addr} {o : HO} {m : MO} (S : Sim K H M) (hp : H p = none) : Stp H M (upd H p o) (um M p m) :=
  ⟨fun a x h n =>
    have ne : a ≠ p := ne_of_none h hp
    ⟨by rw [upd_ne ne]; exact h, by rw [um_ne ne]; exact n⟩, fun a t ks e => by
    obtain ⟨x, h⟩ := (S a _ e).has
    have ne : a ≠ p := ne_of_none h hp
    exact ⟨upd_ne ne, .inl (um_ne ne)⟩⟩
theorem Stp.newT {p : Addr} {o : HO} (S : Sim K H M) (hp : H p = none) : Stp H M (upd H p o) M :=
  ⟨fun a x h n => ⟨by rw [upd_ne (ne_of_none h hp)]; exact h, n⟩, fun a t ks e => by
    obtain ⟨x, h⟩ := (S a _ e).has
    exact ⟨upd_ne (ne_of_none h hp), .inl rfl⟩⟩
def unlocked : MO → Bool
  | .dct true _ _ => false
  | _ => true
theorem Stp.mut {p : Addr} {o : HO} {m m' : MO} (hp : M p = some m') (hu : unlocked m' = true := by rfl) : Stp H M (upd H p o) (um M p m) :=
  ⟨fun a x h n =>
    have ne : a ≠ p := fun e => by rw [e, hp] at n; cases n
    ⟨by rw [upd_ne ne]; exact h, by rw [um_ne ne]; exact n⟩, fun a t ks e => by
    have ne : a ≠ p := fun z => by
      rw [z, hp] at e
      cases e
      cases hu
    exact ⟨upd_ne ne, .inl (um_ne ne)⟩⟩
theorem Sim.new (S : Sim K H M) {p : Addr} {o : HO} {m : MO} (hp : H p = none) (new : OR K (upd H p o) p m) : Sim K (upd H p o) (um M p m) :=
  S.to (Stp.new S hp) fun a x e => by
    by_cases h : a = p
    · subst h
      rw [um_same] at e
      cases e
      exact .inr new
    · rw [um_ne h] at e
      exact .inl ⟨e, upd_ne h⟩
theorem Sim.newT (S : Sim K H M) {p : Addr} {vs : List V} (hp : H p = none) : Sim K (upd H p (.tup vs)) M :=
  S.to (Stp.newT S hp) fun a x e => .inl ⟨e, upd_ne fun z => by
    have q := S.fr hp
    rw [z, q] at e
    cases e⟩
theorem Sim.mut (S : Sim K H M) {p : Addr} {o : HO} {m m' : MO} (hp : M p = some m') (hu : unlocked m' = true) (new : OR K (upd H p o) p m) : Sim K (upd H p o) (um M p m) :=
  S.to (Stp.mut hp hu) fun a x e => by
    by_cases h : a = p
    · subst h
      rw [um_same] at e
      cases e
      exact .inr new
    · rw [um_ne h] at e
      exact .inl ⟨e, upd_ne h⟩
theorem Sim.sub (S : Sim K H M) (s : Sub M' M) : Sim K H M' := fun a o e => S a o (s a o e)
theorem Stp.sub (s : Sub M' M) : Stp H M H M' := ⟨fun a o h n => ⟨h, by
  cases e : M' a with
  | none => rfl
  | some x => rw [s a x e] at n; cases n⟩, fun a t ks e => ⟨rfl, by
  cases e2 : M' a with
  | none => exact .inr rfl
  | some x => exact .inl (s a x e2).symm⟩⟩
end

/-! ### continuations -/
def Cont (K : Kw) (H : Hp) (M : Hm) (Qu : QU) (Q : VK) : Prop := ∀ v H' u M', Stp H M H' M' → Sim K H' M' → Rel K H' v u → Qu u M' → Q v H'
def ContB (K : Kw) (H : Hp) (M : Hm) (Qu : Bool → Hm → Prop) (Q : Bool → Hp → Prop) : Prop := ∀ b H' M', Stp H M H' M' → Sim K H' M' → Qu b M' → Q b H'
def ContL (K : Kw) (H : Hp) (M : Hm) (Qu : List U → Hm → Prop) (Q : List V → Hp → Prop) : Prop := ∀ v H' u M', Stp H M H' M' → Sim K H' M' → RelL K H' v u → Qu u M' → Q v H'
section
variable {K : Kw} {H H' : Hp} {M M' : Hm} {Qu : QU} {Q : VK}
theorem Cont.at_ (c : Cont K H M Qu Q) (S : Sim K H M) {v : V} {u : U} (r : Rel K H v u) (q : Qu u M) : Q v H := c v H u M (Stp.refl H M) S r q
theorem Cont.bl (c : Cont K H M (fun u M => ∃ b, u = .bl b ∧ Qu u M) Q) : True := trivial
theorem Cont.tr {H1 : Hp} {M1 : Hm} (S0 : Sim K H M) (t : Stp H M H1 M1) (c : Cont K H M Qu Q) : Cont K H1 M1 Qu Q := fun v H' u M' t' S r q => c v H' u M' (t.trans S0 t') S r q
theorem ContB.tr {H1 : Hp} {M1 : Hm} {Qu : Bool → Hm → Prop} {Q : Bool → Hp → Prop} (S0 : Sim K H M) (t : Stp H M H1 M1) (c : ContB K H M Qu Q) : ContB K H1 M1 Qu Q := fun v H' M' t' S q => c v H' M' (t.trans S0 t') S q
theorem ContL.tr {H1 : Hp} {M1 : Hm} {Qu : List U → Hm → Prop} {Q : List V → Hp → Prop} (S0 : Sim K H M) (t : Stp H M H1 M1) (c : ContL K H M Qu Q) : ContL K H1 M1 Qu Q := fun v H' u M' t' S r q => c v H' u M' (t.trans S0 t') S r q
/-- a new tuple -/
theorem Cont.tup (c : Cont K H M Qu Q) (S : Sim K H M) {vs : List V} {us : List U} (r : RelL K H vs us) (q : Qu (.tup us) M) {p : Addr} (hp : H p = none) : Q (.ref p) (upd H p (.tup vs)) :=
  c _ _ (.tup us) M (Stp.newT S hp) (S.newT hp) (.tup upd_same (r.stp S (Stp.newT S hp))) q
/-- a new list -/
theorem Cont.lst (c : Cont K H M Qu Q) (S : Sim K H M) {vs : List V} {us : List U} (r : RelL K H vs us) (q : ∀ p, M p = none → Qu (.ref p) (um M p (.lst us))) {p : Addr} (hp : H p = none) : Q (.ref p) (upd H p (.lst vs)) :=
  c _ _ (.ref p) (um M p (.lst us)) (Stp.new S hp) (S.new (m := .lst us) hp ⟨vs, upd_same, r.stp S (Stp.new (m := .lst us) S hp)⟩) (.ref p) (q p (S.fr hp))
/-- a list changed -/
theorem Cont.mutL (c : Cont K H M Qu Q) (S : Sim K H M) {p : Addr} {ws : List U} {vs : List V} {us : List U} (hm : M p = some (.lst ws)) (r : RelL K H vs us) {v : V} {u : U} (rv : Rel K H v u) (q : Qu u (um M p (.lst us))) : Q v (upd H p (.lst vs)) :=
  c _ _ u (um M p (.lst us)) (Stp.mut hm) (S.mut (m := .lst us) hm rfl ⟨vs, upd_same, r.stp S (Stp.mut (m := .lst us) hm)⟩) (rv.stp S (Stp.mut (m := .lst us) hm)) q
theorem Rel.ref_lst {S : Sim K H M} {v : V} {p : Addr} (r : Rel K H v (.ref p)) : v = .ref p := by cases r; rfl
end
/-- the reading of a two-place operation -/
def R2s (K : Kw) (f : U → U → Hm → QU → Prop) : R2 := fun x y H Q => ∃ a b M Qu, Sim K H M ∧ Rel K H x a ∧ Rel K H y b ∧ f a b M Qu ∧ Cont K H M Qu Q
def bopOf : Bop → Operator
  | .add => .Add | .sub => .Sub | .mul => .Mult | .fdiv => .FloorDiv | .mod => .Mod | .pow => .Pow | .shl => .LShift | .shr => .RShift | .band => .BitAnd | .bor => .BitOr
def copOf : Cop → CmpOp
  | .eq => .Eq | .ne => .NotEq | .lt => .Lt | .le => .LtE | .gt => .Gt | .ge => .GtE | .isin => .In | .notin => .NotIn
section
variable {X : Cx}
theorem op_binS (op : Bop) : OpR X (binaryOp (bopOf op)) (R2s (kwX X) (binW op)) := by
  intro pins s σ H x y v u Q I rx ry h
  obtain ⟨a, b, M, Qu, S, ra, rb, hf, c⟩ := h
  have int2 : ∀ {i j : Int}, a = .int i → b = .int j → x = .int i ∧ y = .int j := fun {i j} e1 e2 => by
    subst e1 e2
    cases ra
    cases rb
    exact ⟨rfl, rfl⟩
  unfold binW at hf
  split at hf
  · cases ra; cases rb; exact op_add pins s σ H _ _ v u Q I rx ry ⟨_, _, rfl, rfl, c.at_ S (.int _) hf⟩
  · cases ra; cases rb; exact op_sub pins s σ H _ _ v u Q I rx ry ⟨_, _, rfl, rfl, c.at_ S (.int _) hf⟩
  · cases ra; cases rb; exact op_mul pins s σ H _ _ v u Q I rx ry ⟨_, _, rfl, rfl, hf.1, c.at_ S (.int _) hf.2⟩
  · cases ra; cases rb; exact op_fdiv pins s σ H _ _ v u Q I rx ry ⟨_, _, rfl, rfl, hf.1, c.at_ S (.int _) hf.2⟩
  · cases ra; cases rb; exact op_mod pins s σ H _ _ v u Q I rx ry ⟨_, _, rfl, rfl, hf.1, c.at_ S (.int _) hf.2⟩
  · cases ra; cases rb; exact op_pow pins s σ H _ _ v u Q I rx ry ⟨_, _, rfl, rfl, hf.1, c.at_ S (.int _) hf.2⟩
  · cases ra; cases rb; exact op_shl pins s σ H _ _ v u Q I rx ry ⟨_, _, rfl, rfl, hf.1, c.at_ S (.int _) hf.2⟩
  · cases ra; cases rb; exact op_shr pins s σ H _ _ v u Q I rx ry ⟨_, _, rfl, rfl, hf.1, c.at_ S (.int _) hf.2⟩
  · cases ra; cases rb; exact op_and pins s σ H _ _ v u Q I rx ry ⟨_, _, rfl, rfl, c.at_ S (.int _) hf⟩
  · cases ra; cases rb; exact op_or pins s σ H _ _ v u Q I rx ry ⟨_, _, rfl, rfl, c.at_ S (.int _) hf⟩
  · cases ra; cases rb; exact op_add_str pins s σ H _ _ v u Q I rx ry ⟨_, _, rfl, rfl, le_line hf.1, c.at_ S (.str _) hf.2⟩
  · cases ra with
    | tup t1 r1 =>
      cases rb with
      | tup t2 r2 =>
        rename_i la lb p vs q ws
        refine op_catA pins s σ H _ _ v u Q I rx ry ⟨p, q, vs, ws, rfl, rfl, t1.sq, t2.sq, by rw [r1.length, r2.length]; exact le_line hf.1, fun e => ?_, fun _ e => ?_, fun _ _ n hn => c.tup S (r1.append r2) hf.2 hn⟩
        · have e1 : la = [] := r1.nil_iff.mp e
          have q2 := hf.2
          rw [e1, List.nil_append] at q2
          exact c.at_ S (.tup t2 r2) q2
        · have e1 : lb = [] := r2.nil_iff.mp e
          have q2 := hf.2
          rw [e1, List.append_nil] at q2
          exact c.at_ S (.tup t1 r1) q2
  · obtain ⟨us, h1, k1, k2, hl, hq⟩ := hf
    obtain ⟨vs, g1, r1⟩ := S _ _ h1
    cases ra; cases rb
    refine op_rep pins s σ H _ _ v u Q I rx ry ⟨_, _, vs, rfl, rfl, g1, by unfold LIM at k1; omega, by unfold LIM at k2; omega, by rw [r1.length]; exact le_line hl, fun n hn => c.lst S (RelL.rep r1 _) hq hn⟩
  · obtain ⟨us, ws, h1, h2, hl, hq⟩ := hf
    obtain ⟨vs, g1, r1⟩ := S _ _ h1
    obtain ⟨xs, g2, r2⟩ := S _ _ h2
    cases ra; cases rb
    exact op_cat pins s σ H _ _ v u Q I rx ry ⟨_, _, _, _, rfl, rfl, g1, g2, by rw [r1.length, r2.length]; exact le_line hl, fun n hn => c.lst S (r1.append r2) hq hn⟩
  · exact hf.elim
end
end Pl

set_option maxHeartbeats 4000000
/-! comparisons, truth, subscripts, stores, built-ins by values -/
namespace Pl
open PySem L2
section
variable {K : Kw} {H H' : Hp} {M M' : Hm}
mutual
theorem ok_dp : ∀ (n : Nat) (u : U) (v : V), u.ok n = true → Rel K H v u → Dp K H v (pd u)
  | _, .non, _, _, r => by cases r; exact .non
  | _, .int i, _, _, r => by cases r; exact .int i
  | _, .str x, _, _, r => by cases r; exact .str x
  | n + 1, .tup l, _, h, r => by
    cases r with
    | tup t rl => exact .tup t.sq (ok_dpL n l _ (by simpa [U.ok] using h) rl)
  | 0, .tup l, _, h, r => by simp [U.ok] at h
  | _, .bl _, _, h, _ => by simp [U.ok] at h
  | _, .ref _, _, h, _ => by simp [U.ok] at h
  | _, .rol _, _, h, _ => by simp [U.ok] at h
  | _, .dtp _, _, h, _ => by simp [U.ok] at h
theorem ok_dpL : ∀ (n : Nat) (l : List U) (vs : List V), (∀ x ∈ l, x.ok n = true) → RelL K H vs l → DpAll K H vs (pdL l)
  | _, [], _, _, r => by cases r; exact .nil
  | n, x :: xs, _, h, r => by
    cases r with
    | cons a b => exact .cons (ok_dp n x _ (h x List.mem_cons_self) a) (ok_dpL n xs _ (fun y hy => h y (List.mem_cons_of_mem _ hy)) b)
end
end
mutual
theorem ok_lay : ∀ (n : Nat) (u : U), u.ok n = true → (pd u).canLay0 = true ∧ (pd u).depth ≤ n
  | _, .non, _ => ⟨by simp [pd, PyData.canLay0], by simp [pd, PyData.depth]⟩
  | _, .int i, _ => ⟨by simp [pd, PyData.canLay0], by simp [pd, PyData.depth]⟩
  | _, .str x, h => ⟨by
    have q : okS x = true := by simpa [U.ok] using h
    simp only [pd, PyData.canLay0]
    exact q, by simp [pd, PyData.depth]⟩
  | n + 1, .tup l, h => by
    obtain ⟨a, b⟩ := ok_layL n l (by simpa [U.ok] using h)
    refine ⟨?_, ?_⟩
    · simp only [pd, PyData.canLay0]; exact a
    · simp only [pd, PyData.depth]; omega
  | 0, .tup l, h => by simp [U.ok] at h
  | _, .bl _, h => by simp [U.ok] at h
  | _, .ref _, h => by simp [U.ok] at h
  | _, .rol _, h => by simp [U.ok] at h
  | _, .dtp _, h => by simp [U.ok] at h
theorem ok_layL : ∀ (n : Nat) (l : List U), (∀ x ∈ l, x.ok n = true) → PyData.canLayAll0 (pdL l) = true ∧ PyData.depthAll (pdL l) ≤ n
  | _, [], _ => ⟨by simp [pdL, PyData.canLayAll0], by simp [pdL, PyData.depthAll]⟩
  | n, x :: xs, h => by
    obtain ⟨a, b⟩ := ok_lay n x (h x List.mem_cons_self)
    obtain ⟨c, d⟩ := ok_layL n xs (fun y hy => h y (List.mem_cons_of_mem _ hy))
    refine ⟨?_, ?_⟩
    · simp only [pdL, PyData.canLayAll0, a, c, Bool.and_self]
    · simp only [pdL, PyData.depthAll]; omega
end
mutual
theorem ok_eqv : ∀ (n : Nat) (u : U) (m : Nat) (x : U), u.ok n = true → x.ok m = true → PyData.eqv (pd u) (pd x) = decide (u = x)
  | _, .non, m, x, _, h => by cases x <;> first | (simp [pd, PyData.eqv]; done) | simp [U.ok] at h
  | _, .int i, m, x, _, h => by cases x <;> first | (simp [pd, PyData.eqv, Bool.beq_eq_decide_eq]; done) | simp [U.ok] at h
  | _, .str s, m, x, _, h => by cases x <;> first | (simp [pd, PyData.eqv, Bool.beq_eq_decide_eq]; done) | simp [U.ok] at h
  | n + 1, .tup l, m, x, g, h => by
    cases x with
    | tup l2 =>
      cases m with
      | zero => simp [U.ok] at h
      | succ m =>
        have q := ok_eqvL n l m l2 (by simpa [U.ok] using g) (by simpa [U.ok] using h)
        simp only [pd, PyData.eqv, q, U.tup.injEq]
    | bl _ => simp [U.ok] at h
    | ref _ => simp [U.ok] at h
    | rol _ => simp [U.ok] at h
    | dtp _ => simp [U.ok] at h
    | _ => simp [pd, PyData.eqv]
  | 0, .tup l, _, _, h, _ => by simp [U.ok] at h
  | _, .bl _, _, _, h, _ => by simp [U.ok] at h
  | _, .ref _, _, _, h, _ => by simp [U.ok] at h
  | _, .rol _, _, _, h, _ => by simp [U.ok] at h
  | _, .dtp _, _, _, h, _ => by simp [U.ok] at h
theorem ok_eqvL : ∀ (n : Nat) (l : List U) (m : Nat) (l2 : List U), (∀ x ∈ l, x.ok n = true) → (∀ x ∈ l2, x.ok m = true) → PyData.eqvAll (pdL l) (pdL l2) = decide (l = l2)
  | _, [], _, [], _, _ => by simp [pdL, PyData.eqvAll]
  | _, [], _, _ :: _, _, _ => by simp [pdL, PyData.eqvAll]
  | _, _ :: _, _, [], _, _ => by simp [pdL, PyData.eqvAll]
  | n, x :: xs, m, y :: ys, g, h => by
    have a := ok_eqv n x m y (g x List.mem_cons_self) (h y List.mem_cons_self)
    have b := ok_eqvL n xs m ys (fun z hz => g z (List.mem_cons_of_mem _ hz)) (fun z hz => h z (List.mem_cons_of_mem _ hz))
    simp only [pdL, PyData.eqvAll, a, b, List.cons.injEq, Bool.decide_and]
end
theorem ok_shaped {n : Nat} {u : U} (h : u.ok n = true) (hn : n ≤ 64) : SeqAt.shaped (pd u) = true := by
  obtain ⟨a, b⟩ := ok_lay n u h
  unfold SeqAt.shaped
  rw [a, Bool.true_and]
  exact decide_eq_true (by omega)
theorem okL_all {l : List U} (h : okL l = true) : ∀ x ∈ l, x.ok 59 = true := List.all_eq_true.mp h
theorem okL_shaped {l : List U} (h : okL l = true) : SeqAt.shaped (.list (pdL l)) = true := by
  obtain ⟨a, b⟩ := ok_layL 59 l (okL_all h)
  unfold SeqAt.shaped
  have e : (PyData.list (pdL l)).canLay0 = true := by simp only [PyData.canLay0]; exact a
  rw [e, Bool.true_and]
  exact decide_eq_true (by simp only [PyData.depth]; omega)
theorem any_eqv {x : U} (hx : okU x = true) : ∀ (l : List U), (∀ y ∈ l, y.ok 59 = true) → ((pdL l).any fun z => PyData.eqv z (pd x)) = decide (x ∈ l)
  | [], _ => by simp [pdL]
  | y :: ys, h => by
    have a := ok_eqv 59 y 60 x (h y List.mem_cons_self) hx
    have b := any_eqv hx ys fun z hz => h z (List.mem_cons_of_mem _ hz)
    rw [pdL, List.any_cons, a, b, ← Bool.decide_or]
    exact decide_eq_decide.mpr ⟨fun z => z.elim (fun e => by rw [e]; exact List.mem_cons_self) (List.mem_cons_of_mem _), fun z => (List.mem_cons.mp z).elim (fun e => .inl e.symm) .inr⟩

/-! ### keys -/
section
variable {K : Kw} {H H' : Hp} {M M' : Hm}
theorem isKey_of {u : U} {v : V} (h : isKey u = true) (r : Rel K H v u) : ∃ k : Key, u = keyU k ∧ v = kV k := by
  cases r with
  | int i => exact ⟨.inl i, rfl, rfl⟩
  | str x => exact ⟨.inr x, rfl, rfl⟩
  | _ => cases h
theorem isKeys_of : ∀ {us : List U} {vs : List V}, us.all isKey = true → RelL K H vs us → ∃ ks : List Key, us = ks.map keyU ∧ vs = ks.map kV
  | [], _, _, r => by cases r; exact ⟨[], rfl, rfl⟩
  | u :: us, _, h, r => by
    cases r with
    | cons a b =>
      rw [List.all_cons, Bool.and_eq_true] at h
      obtain ⟨k, e1, e2⟩ := isKey_of h.1 a
      obtain ⟨ks, f1, f2⟩ := isKeys_of h.2 b
      exact ⟨k :: ks, by rw [e1, f1]; rfl, by rw [e2, f2]; rfl⟩
theorem isKeyT_of {u : U} {v : V} (h : isKeyT u = true) (r : Rel K H v u) : ∃ (b : Addr) (ks : List Key), u = .tup (ks.map keyU) ∧ v = .ref b ∧ H b = some (.tup (ks.map kV)) := by
  cases r with
  | tup t rl =>
    obtain ⟨ks, e1, e2⟩ := isKeys_of h rl
    rename_i a vs us
    exact ⟨a, ks, by rw [e1], rfl, by rw [← e2]; exact t⟩
  | _ => cases h
theorem dfind_cons (p : U × U) (ks : List (U × U)) (k : U) : dfind (p :: ks) k = if p.1 = k then some p.2 else dfind ks k := by
  unfold dfind
  rw [List.find?_cons]
  by_cases h : p.1 = k
  · simp [h]
  · simp [h]
theorem RelK.find {kvs : List (Key × V)} {ks : List (U × U)} (h : RelK K H kvs ks) (k : Key) : (valV kvs k = none ∧ dfind ks (keyU k) = none) ∨ ∃ v u, valV kvs k = some v ∧ dfind ks (keyU k) = some u ∧ Rel K H v u := by
  unfold RelK at h
  induction h with
  | nil => exact .inl ⟨rfl, rfl⟩
  | @cons p q ps qs a _ ih =>
    rw [dfind_cons]
    by_cases e : p.1 = k
    · right
      refine ⟨p.2, q.2, valV_pos e, ?_, a.2⟩
      rw [if_pos (by rw [a.1, e])]
    · rw [valV_neg e, if_neg (fun z => e (keyU_inj (a.1.symm.trans z)))]
      exact ih
theorem RelT.find {kvs : List (List Key × V)} {ks : List (U × U)} (h : RelT K H kvs ks) (k : List Key) : (valV kvs k = none ∧ dfind ks (.tup (k.map keyU)) = none) ∨ ∃ v u, valV kvs k = some v ∧ dfind ks (.tup (k.map keyU)) = some u ∧ Rel K H v u := by
  unfold RelT at h
  induction h with
  | nil => exact .inl ⟨rfl, rfl⟩
  | @cons p q ps qs a _ ih =>
    rw [dfind_cons]
    by_cases e : p.1 = k
    · right
      refine ⟨p.2, q.2, valV_pos e, ?_, a.2⟩
      rw [if_pos (by rw [a.1, e])]
    · rw [valV_neg e, if_neg (fun z => e (keysU_inj (by
        have z2 := a.1.symm.trans z
        injection z2)))]
      exact ih
theorem Paired.app {α β : Type} {F : α → β → Prop} {xs xs' : List α} {ys ys' : List β} (h : Paired F xs ys) (k : Paired F xs' ys') : Paired F (xs ++ xs') (ys ++ ys') := by
  induction h with
  | nil => exact k
  | cons a _ ih => exact .cons a ih
theorem RelK.put {kvs : List (Key × V)} {ks : List (U × U)} (h : RelK K H kvs ks) (k : Key) {v : V} {u : U} (r : Rel K H v u) : RelK K H (putK kvs k v) (dput ks (keyU k) u) := by
  unfold putK dput
  rw [valV_any]
  have c : (valV kvs k).isSome = (dfind ks (keyU k)).isSome := by
    rcases h.find k with ⟨a, b⟩ | ⟨_, _, a, b, _⟩ <;> rw [a, b] <;> rfl
  rw [c]
  by_cases z : (dfind ks (keyU k)).isSome = true
  · rw [if_pos z, if_pos z]
    unfold RelK at h ⊢
    clear z c
    induction h with
    | nil => exact .nil
    | @cons p q ps qs a _ ih =>
      rw [List.map_cons, List.map_cons]
      refine .cons ?_ ih
      by_cases e : p.1 = k
      · rw [if_pos e, if_pos (by rw [a.1, e])]
        exact ⟨a.1, r⟩
      · rw [if_neg e, if_neg (fun z => e (keyU_inj (a.1.symm.trans z)))]
        exact a
  · rw [if_neg z, if_neg z]
    exact Paired.app h (.cons ⟨rfl, r⟩ .nil)
theorem RelT.put {kvs : List (List Key × V)} {ks : List (U × U)} (h : RelT K H kvs ks) (k : List Key) {v : V} {u : U} (r : Rel K H v u) : RelT K H (putK kvs k v) (dput ks (.tup (k.map keyU)) u) := by
  unfold putK dput
  rw [valV_any]
  have c : (valV kvs k).isSome = (dfind ks (.tup (k.map keyU))).isSome := by
    rcases h.find k with ⟨a, b⟩ | ⟨_, _, a, b, _⟩ <;> rw [a, b] <;> rfl
  rw [c]
  by_cases z : (dfind ks (.tup (k.map keyU))).isSome = true
  · rw [if_pos z, if_pos z]
    unfold RelT at h ⊢
    clear z c
    induction h with
    | nil => exact .nil
    | @cons p q ps qs a _ ih =>
      rw [List.map_cons, List.map_cons]
      refine .cons ?_ ih
      by_cases e : p.1 = k
      · rw [if_pos e, if_pos (by rw [a.1, e])]
        exact ⟨a.1, r⟩
      · rw [if_neg e, if_neg (fun z => e (keysU_inj (by
          have z2 := a.1.symm.trans z
          injection z2)))]
        exact a
  · rw [if_neg z, if_neg z]
    exact Paired.app h (.cons ⟨rfl, r⟩ .nil)
theorem RelK.len {kvs : List (Key × V)} {ks : List (U × U)} (h : RelK K H kvs ks) : kvs.length = ks.length := Paired.length h
theorem RelT.len {kvs : List (List Key × V)} {ks : List (U × U)} (h : RelT K H kvs ks) : kvs.length = ks.length := Paired.length h
theorem fz_rd {z : Bool} {a : Addr} {u : HO} (h : fz z (H a) u) : Rd H a u := by
  unfold fz at h
  cases z with
  | true => exact .inr (show ∃ ob, H a = some (.frz ob u) from h)
  | false => exact .inl h
/-- what a dict holds -/
theorem dget_of (S : Sim K H M) {p : Addr} {z t : Bool} {ks : List (U × U)} {k : U} {y : V} (hm : M p = some (.dct z t ks)) (hk : keyFor t k = true) (r : Rel K H y k) :
    ∃ o, DGet H p y o ∧ ((o = none ∧ dfind ks k = none) ∨ ∃ v u, o = some v ∧ dfind ks k = some u ∧ Rel K H v u) := by
  have q := S p _ hm
  cases t with
  | false =>
    obtain ⟨kvs, e, rk⟩ := q
    obtain ⟨key, e1, e2⟩ := isKey_of hk r
    refine ⟨valV kvs key, .inl ⟨kvs, key, fz_rd e, e2, rfl⟩, ?_⟩
    rw [e1]
    exact rk.find key
  | true =>
    obtain ⟨kvs, e, rk⟩ := q
    obtain ⟨b, key, e1, e2, e3⟩ := isKeyT_of hk r
    refine ⟨valV kvs key, .inr ⟨kvs, key, b, fz_rd e, e2, e3, rfl⟩, ?_⟩
    rw [e1]
    exact rk.find key
theorem dput_of (S : Sim K H M) {p : Addr} {t : Bool} {ks : List (U × U)} {k u : U} {y v : V} (hm : M p = some (.dct false t ks)) (hk : keyFor t k = true) (r : Rel K H y k) (rv : Rel K H v u) (hl : ks.length < LIM) :
    ∃ H', DPut H p y v H' ∧ Stp H M H' (um M p (.dct false t (dput ks k u))) ∧ Sim K H' (um M p (.dct false t (dput ks k u))) := by
  have q := S p _ hm
  cases t with
  | false =>
    obtain ⟨kvs, e, rk⟩ := q
    have e : H p = some (.dK kvs) := e
    obtain ⟨key, e1, e2⟩ := isKey_of hk r
    have st : Stp H M (upd H p (.dK (putK kvs key v))) (um M p (.dct false false (dput ks k u))) := Stp.mut hm
    refine ⟨_, .inl ⟨kvs, key, e, e2, by rw [rk.len]; exact lt_line hl, rfl⟩, st, S.mut (m := .dct false false (dput ks k u)) hm rfl ⟨_, upd_same, ?_⟩⟩
    rw [e1]
    exact RelK.put (Paired.mapR rk fun p q x => ⟨x.1, x.2.stp S st⟩) key (rv.stp S st)
  | true =>
    obtain ⟨kvs, e, rk⟩ := q
    have e : H p = some (.dT kvs) := e
    obtain ⟨b, key, e1, e2, e3⟩ := isKeyT_of hk r
    have st : Stp H M (upd H p (.dT (putK kvs key v))) (um M p (.dct false true (dput ks k u))) := Stp.mut hm
    refine ⟨_, .inr ⟨kvs, key, b, e, e2, e3, by rw [rk.len]; exact lt_line hl, rfl⟩, st, S.mut (m := .dct false true (dput ks k u)) hm rfl ⟨_, upd_same, ?_⟩⟩
    rw [e1]
    exact RelT.put (Paired.mapR rk fun p q x => ⟨x.1, x.2.stp S st⟩) key (rv.stp S st)
theorem relL_in {k : Key} : ∀ {ks : List Key} , inV (kV k) (ks.map kV) = decide (keyU k ∈ ks.map keyU)
  | [] => by simp [inV]
  | x :: xs => by
    have ih := @relL_in k xs
    unfold inV at ih ⊢
    rw [List.map_cons, List.any_cons, ih, List.map_cons]
    have e : eqV (kV x) (kV k) = decide (keyU x = keyU k) := by
      cases x <;> cases k <;> simp [kV, eqV, keyU, Bool.beq_eq_decide_eq]
    rw [e, ← Bool.decide_or]
    exact decide_eq_decide.mpr ⟨fun z => z.elim (fun e => by rw [e]; exact List.mem_cons_self) (List.mem_cons_of_mem _), fun z => (List.mem_cons.mp z).elim (fun e => .inl e.symm) .inr⟩
theorem flat_keys : ∀ ks : List Key, (ks.map kV).all flatV = true
  | [] => rfl
  | k :: ks => by rw [List.map_cons, List.all_cons, flat_keys ks]; cases k <;> rfl
end
end Pl

set_option maxHeartbeats 4000000
/-! dicts whose keys are tuples within one another -/
namespace Pl
open PySem L2
mutual
theorem nk_inj : ∀ (n : Nat) (a b : U), a.okN n = true → b.okN n = true → nk a = nk b → a = b
  | _, .non, .non, _, _, _ => rfl
  | _, .int i, .int j, _, _, h => by unfold nk at h; injection h with h; rw [h]
  | _, .str i, .str j, _, _, h => by unfold nk at h; injection h with h; rw [h]
  | n + 1, .tup l, .tup m, h1, h2, h => by
    unfold nk at h
    injection h with h
    unfold U.okN at h1 h2
    rw [List.all_eq_true] at h1 h2
    rw [nkL_inj n l m h1 h2 h]
  | _, .non, .int _, _, _, h => by unfold nk at h; cases h
  | _, .non, .str _, _, _, h => by unfold nk at h; cases h
  | _, .non, .tup _, _, _, h => by unfold nk at h; cases h
  | _, .int _, .non, _, _, h => by unfold nk at h; cases h
  | _, .int _, .str _, _, _, h => by unfold nk at h; cases h
  | _, .int _, .tup _, _, _, h => by unfold nk at h; cases h
  | _, .str _, .non, _, _, h => by unfold nk at h; cases h
  | _, .str _, .int _, _, _, h => by unfold nk at h; cases h
  | _, .str _, .tup _, _, _, h => by unfold nk at h; cases h
  | _, .tup _, .non, _, _, h => by unfold nk at h; cases h
  | _, .tup _, .int _, _, _, h => by unfold nk at h; cases h
  | _, .tup _, .str _, _, _, h => by unfold nk at h; cases h
  | 0, .tup _, .tup _, h1, _, _ => by simp [U.okN] at h1
  | _, .bl _, _, h1, _, _ => by simp [U.okN] at h1
  | _, .ref _, _, h1, _, _ => by simp [U.okN] at h1
  | _, .rol _, _, h1, _, _ => by simp [U.okN] at h1
  | _, .dtp _, _, h1, _, _ => by simp [U.okN] at h1
  | _, _, .bl _, _, h1, _ => by simp [U.okN] at h1
  | _, _, .ref _, _, h1, _ => by simp [U.okN] at h1
  | _, _, .rol _, _, h1, _ => by simp [U.okN] at h1
  | _, _, .dtp _, _, h1, _ => by simp [U.okN] at h1
theorem nkL_inj : ∀ (n : Nat) (a b : List U), (∀ x ∈ a, x.okN n = true) → (∀ x ∈ b, x.okN n = true) → nkL a = nkL b → a = b
  | _, [], [], _, _, _ => rfl
  | n, x :: xs, y :: ys, h1, h2, h => by
    unfold nkL at h
    injection h with h h'
    rw [nk_inj n x y (h1 x List.mem_cons_self) (h2 y List.mem_cons_self) h, nkL_inj n xs ys (fun z hz => h1 z (List.mem_cons_of_mem _ hz)) (fun z hz => h2 z (List.mem_cons_of_mem _ hz)) h']
  | _, [], _ :: _, _, _, h => by unfold nkL at h; cases h
  | _, _ :: _, [], _, _, h => by unfold nkL at h; cases h
end
mutual
theorem nk_depth : ∀ (n : Nat) (a : U), a.okN n = true → (nk a).depth ≤ n
  | _, .non, _ => Nat.zero_le _
  | _, .int i, _ => Nat.zero_le _
  | _, .str i, _ => Nat.zero_le _
  | n + 1, .tup l, h => by
    unfold U.okN at h
    rw [List.all_eq_true] at h
    unfold nk
    show PySem.NestedKey.depthAll (nkL l) + 1 ≤ n + 1
    exact Nat.succ_le_succ (nkL_depth n l h)
  | 0, .tup _, h => by simp [U.okN] at h
  | _, .bl _, h1 => by simp [U.okN] at h1
  | _, .ref _, h1 => by simp [U.okN] at h1
  | _, .rol _, h1 => by simp [U.okN] at h1
  | _, .dtp _, h1 => by simp [U.okN] at h1
theorem nkL_depth : ∀ (n : Nat) (a : List U), (∀ x ∈ a, x.okN n = true) → PySem.NestedKey.depthAll (nkL a) ≤ n
  | _, [], _ => Nat.zero_le _
  | n, x :: xs, h1 => by
    unfold nkL
    show max (nk x).depth (PySem.NestedKey.depthAll (nkL xs)) ≤ n
    exact Nat.max_le.mpr ⟨nk_depth n x (h1 x List.mem_cons_self), nkL_depth n xs (fun z hz => h1 z (List.mem_cons_of_mem _ hz))⟩
end
section
variable {K : Kw} {H : Hp} {P : Program} {wd : World} {h : Heap}
mutual
theorem nk_is (I : HOk P wd H h) : ∀ (n : Nat) (u : U) (v : V) (x : Value), u.okN n = true → Rel K H v u → RelV v x → NestedIs h (nk u) x
  | _, .non, _, x, _, r, rv => by cases r; obtain rfl : x = Value.none := rv; exact .none
  | _, .int i, _, x, _, r, rv => by cases r; obtain ⟨t, rfl⟩ := rv; exact .int _ _
  | _, .str i, _, x, _, r, rv => by cases r; obtain ⟨t, rfl⟩ := rv; exact .text _ _
  | n + 1, .tup l, _, x, ok, r, rv => by
    unfold U.okN at ok
    rw [List.all_eq_true] at ok
    cases r with
    | tup t rl =>
      obtain ⟨z, its, vv, o, h1, h2, m, h3⟩ := I _ _ t
      obtain rfl : x = Value.ref _ := rv
      unfold nk
      exact .tup h1 h2 h3 (nkL_is I n l _ _ ok rl vv)
  | 0, .tup _, _, _, ok, _, _ => by simp [U.okN] at ok
  | _, .bl _, _, _, ok, _, _ => by simp [U.okN] at ok
  | _, .ref _, _, _, ok, _, _ => by simp [U.okN] at ok
  | _, .rol _, _, _, ok, _, _ => by simp [U.okN] at ok
  | _, .dtp _, _, _, ok, _, _ => by simp [U.okN] at ok
theorem nkL_is (I : HOk P wd H h) : ∀ (n : Nat) (us : List U) (vs : List V) (xs : List Value), (∀ x ∈ us, x.okN n = true) → RelL K H vs us → Vals vs xs → NestedAll h (nkL us) xs
  | _, [], _, _, _, r, rv => by cases r; cases rv; exact .nil
  | n, u :: us, _, _, ok, r, rv => by
    cases r with
    | cons r1 r2 =>
      cases rv with
      | cons v1 v2 => exact .cons (nk_is I n u _ _ (ok u List.mem_cons_self) r1 v1) (nkL_is I n us _ _ (fun z hz => ok z (List.mem_cons_of_mem _ hz)) r2 v2)
end
theorem keyN_ok {u : U} (h : isKeyN u = true) : u.okN 7 = true ∧ ∃ l, u = .tup l := by
  cases u <;> first | cases h | skip
  exact ⟨h, _, rfl⟩
theorem keyN_ref {u : U} {v : V} (h : isKeyN u = true) (r : Rel K H v u) : ∃ a, v = .ref a := by
  obtain ⟨_, l, rfl⟩ := keyN_ok h
  cases r
  exact ⟨_, rfl⟩
theorem keyN_is (I : HOk P wd H h) {u : U} {a : Addr} (hk : isKeyN u = true) (r : Rel K H (.ref a) u) : (nestedKind P wd).is h (nk u) a :=
  ⟨nk_is I 7 u (.ref a) (.ref a) (keyN_ok hk).1 r rfl, Nat.le_succ_of_le (nk_depth 7 u (keyN_ok hk).1)⟩
theorem paired_append {α β : Type} {F : α → β → Prop} : ∀ {a : List α} {b : List β} {c : List α} {d : List β}, Paired F a b → Paired F c d → Paired F (a ++ c) (b ++ d)
  | _, _, _, _, .nil, h => h
  | _, _, _, _, .cons q r, h => .cons q (paired_append r h)
theorem RelN.len {xs : List NEnt} {ks : List (U × U)} (r : RelN K H xs ks) : xs.length = ks.length := Paired.length r
theorem RelN.find {xs : List NEnt} {ks : List (U × U)} (r : RelN K H xs ks) {k : U} (hk : isKeyN k = true) :
    (atKey xs (nk k) = none ∧ dfind ks k = none) ∨ ∃ q v u, atKey xs (nk k) = some q ∧ dfind ks k = some u ∧ RelV v q.2 ∧ Rel K H v u := by
  induction r with
  | nil => exact .inl ⟨rfl, rfl⟩
  | @cons q p xs ks a _ ih =>
    obtain ⟨⟨a1, a2, a3⟩, v, a4, a5⟩ := a
    have e1 : atKey (q :: xs) (nk k) = if q.1 = nk k then some q.2 else atKey xs (nk k) := by
      unfold atKey
      rw [List.find?_cons]
      by_cases h : q.1 = nk k
      · simp [h]
      · simp [h]
    rw [e1, dfind_cons]
    by_cases h : p.1 = k
    · rw [if_pos h, if_pos (by rw [a2, h])]
      exact .inr ⟨q.2, v, p.2, rfl, rfl, a4, a5⟩
    · rw [if_neg h, if_neg (fun e => h (nk_inj 7 _ _ (keyN_ok a1).1 (keyN_ok hk).1 (a2.symm.trans e)))]
      exact ih
theorem RelN.put {xs : List NEnt} {ks : List (U × U)} (r : RelN K H xs ks) {k u : U} {a : Addr} {v : V} {x : Value} (hk : isKeyN k = true) (rk : Rel K H (.ref a) k) (rv : RelV v x) (ru : Rel K H v u) : RelN K H (storedH xs (nk k) a x) (dput ks k u) := by
  have e : (atKey xs (nk k)).isSome = (dfind ks k).isSome := by
    rcases r.find hk with ⟨h1, h2⟩ | ⟨_, _, _, h1, h2, _⟩ <;> rw [h1, h2] <;> rfl
  unfold storedH dput
  rw [e]
  split
  · clear e
    induction r with
    | nil => exact .nil
    | @cons q p xs ks b _ ih =>
      obtain ⟨⟨a1, a2, a3⟩, v0, a4, a5⟩ := b
      rw [List.map_cons, List.map_cons]
      rename_i hh
      refine .cons ?_ ?_
      · by_cases h : p.1 = k
        · have h2 : q.1 = nk k := by rw [a2, h]
          unfold putAt
          rw [if_pos h, if_pos h2]
          exact ⟨⟨a1, a2, a3⟩, v, rv, ru⟩
        · have h2 : ¬ q.1 = nk k := fun e => h (nk_inj 7 _ _ (keyN_ok a1).1 (keyN_ok hk).1 (a2.symm.trans e))
          unfold putAt
          rw [if_neg h, if_neg h2]
          exact ⟨⟨a1, a2, a3⟩, v0, a4, a5⟩
      · clear ih
        rename_i rr
        clear hh
        induction rr with
        | nil => exact .nil
        | @cons q p xs ks b _ ih =>
          obtain ⟨⟨a1, a2, a3⟩, v0, a4, a5⟩ := b
          rw [List.map_cons, List.map_cons]
          refine .cons ?_ ih
          by_cases h : p.1 = k
          · have h2 : q.1 = nk k := by rw [a2, h]
            unfold putAt
            rw [if_pos h, if_pos h2]
            exact ⟨⟨a1, a2, a3⟩, v, rv, ru⟩
          · have h2 : ¬ q.1 = nk k := fun e => h (nk_inj 7 _ _ (keyN_ok a1).1 (keyN_ok hk).1 (a2.symm.trans e))
            unfold putAt
            rw [if_neg h, if_neg h2]
            exact ⟨⟨a1, a2, a3⟩, v0, a4, a5⟩
  · exact paired_append r (.cons ⟨⟨hk, rfl, rk⟩, v, rv, ru⟩ .nil)
end
section
variable {X : Cx} {pins : List (Addr × Obj)} {σ : L2.St} {H : Hp} {s : Shared} {M : Hm}
theorem dcn_of (I : L2.Inv X pins σ H s) (S : Sim (kwX X) H M) {p : Addr} {ks : List (U × U)} (hm : M p = some (.dcn ks)) :
    ∃ xs, H p = some (.ext (dcnP X.w p xs)) ∧ RelN (kwX X) H xs ks ∧ Heap.DictOfH (nestedKind X.prog X.w) s.heap p xs ∧ (p == sysModules) = false ∧ xs.length ≤ sizeLine := by
  obtain ⟨xs, e, r, hs, hz⟩ := S _ _ hm
  refine ⟨xs, e, r, ?_, hs, hz⟩
  obtain ⟨⟨o, es, ep, h1, h2, h3, h4, h5⟩, _⟩ := I.hok _ _ e
  refine ⟨o, es, ep, h1, h2, h3, h4, fun x hx => ?_, h5⟩
  have key : ∀ {xs : List NEnt} {ks : List (U × U)}, RelN (kwX X) H xs ks → ∀ x ∈ xs, (nestedKind X.prog X.w).is s.heap x.1 x.2.1 := fun r => by
    induction r with
    | nil => intro x hx; cases hx
    | cons a _ ih =>
      intro x hx
      rcases List.mem_cons.mp hx with rfl | hx
      · rw [a.1.2.1]
        exact keyN_is I.hok a.1.1 a.1.2.2
      · exact ih x hx
  exact key r x hx
theorem dcn_ok {h : Heap} {a : Addr} {xs : List NEnt} (d : dcnP X.w a xs h) : ObjOk X.prog X.w (upd H a (.ext (dcnP X.w a xs))) h a (.ext (dcnP X.w a xs)) := by
  refine ⟨d, ?_, ?_⟩
  · obtain ⟨o, _, _, h1, _⟩ := d
    exact ⟨o, h1⟩
  · intro h1 h2 ⟨o, es, ep, g1, g2⟩ k
    exact ⟨o, es, ep, k o g1, g2⟩
variable {A : Around} {E : Value → Shared → Prop}
theorem n_in (hu : A.units + 66 < cLine) (I : L2.Inv X pins σ H s) (S : Sim (kwX X) H M) {p : Addr} {ks : List (U × U)} (hm : M p = some (.dcn ks)) {k : U} {v : V} {u : Value} (hk : isKeyN k = true) (r : Rel (kwX X) H v k) (rv : RelV v u) {Q : Value → Shared → Prop}
    (q : ∀ s', L2.Inv X pins σ H s' → Q (.bool (dfind ks k).isSome) s') : wpAny (model X.prog X.w) A (compareOp .In u (.ref p)) Q E s := by
  obtain ⟨xs, e, rn, dd, hs, hz⟩ := dcn_of I S hm
  obtain ⟨a, rfl⟩ := keyN_ref hk r
  obtain rfl : u = Value.ref a := rv
  refine wpAny_in_heap (knd := nestedKind X.prog X.w) (show (nestedKind X.prog X.w).room A.in1 from (show A.in1.units + 8 < cLine by unfold Around.in1; simp only; omega)) (keyN_is I.hok hk r) hs dd ?_
  have e2 : (atKey xs (nk k)).isSome = (dfind ks k).isSome := by
    rcases rn.find hk with ⟨h1, h2⟩ | ⟨_, _, _, h1, h2, _⟩ <;> rw [h1, h2] <;> rfl
  rw [e2]
  exact q _ (I.tok _)
theorem n_notIn (hu : A.units + 66 < cLine) (I : L2.Inv X pins σ H s) (S : Sim (kwX X) H M) {p : Addr} {ks : List (U × U)} (hm : M p = some (.dcn ks)) {k : U} {v : V} {u : Value} (hk : isKeyN k = true) (r : Rel (kwX X) H v k) (rv : RelV v u) {Q : Value → Shared → Prop}
    (q : ∀ s', L2.Inv X pins σ H s' → Q (.bool !(dfind ks k).isSome) s') : wpAny (model X.prog X.w) A (compareOp .NotIn u (.ref p)) Q E s := by
  obtain ⟨xs, e, rn, dd, hs, hz⟩ := dcn_of I S hm
  obtain ⟨a, rfl⟩ := keyN_ref hk r
  obtain rfl : u = Value.ref a := rv
  refine PyProof.Rows.wpAny_notIn_heap (knd := nestedKind X.prog X.w) (show (nestedKind X.prog X.w).room A.in1 from (show A.in1.units + 8 < cLine by unfold Around.in1; simp only; omega)) (keyN_is I.hok hk r) hs dd ?_
  have e2 : (atKey xs (nk k)).isSome = (dfind ks k).isSome := by
    rcases rn.find hk with ⟨h1, h2⟩ | ⟨_, _, _, h1, h2, _⟩ <;> rw [h1, h2] <;> rfl
  rw [e2]
  exact q _ (I.tok _)
theorem dcn_typeIs (I : L2.Inv X pins σ H s) (S : Sim (kwX X) H M) {p : Addr} {ks : List (U × U)} (hm : M p = some (.dcn ks)) : s.TypeIs (.ref p) "dict" := by
  obtain ⟨xs, e, rn, dd, hs, hz⟩ := dcn_of I S hm
  exact dd.typeIs
/-- list(d) -/
theorem n_list (hc : X.calm = true) (I : L2.Inv X pins σ H s) (S : Sim (kwX X) H M) {p : Addr} {ks : List (U × U)} (hm : M p = some (.dcn ks)) {Q : VK}
    (q : ∀ vs n, RelL (kwX X) H vs (ks.map (·.1)) → H n = none → Q (.ref n) (upd H n (.lst vs))) : wpAny (model X.prog X.w) X.A (call (.type "list") [.ref p]) (EP X pins σ Q) X.xe s := by
  obtain ⟨xs, e, rn, dd, hs, hz⟩ := dcn_of I S hm
  obtain ⟨o, es, ep, h1, h2, h3, h4, h5, h6⟩ := dd
  have l1 : es.size = xs.length := PySem.size_of_entries h4
  refine W.kdl_call (L2.kdl_raw hs h2 h3) (I.ok.hd hc) h1 (by omega) fun h' tk acc c' kp hl it => ?_
  have hsz : acc.toList.length = xs.length := by rw [Array.length_toList, it.1]; exact l1
  have ea : acc.toList = (xs.map (·.2.1)).map Value.ref := by
    refine List.ext_getElem? fun j => ?_
    rw [List.map_map, List.getElem?_map]
    cases hj : acc.toList[j]? with
    | none =>
      have h1 := List.getElem?_eq_none_iff.mp hj
      rw [List.getElem?_eq_none (by omega)]
      rfl
    | some v =>
      obtain ⟨en, hen, hv⟩ := it.2 j v (by rw [← Array.getElem?_toList]; exact hj)
      have qe := PySem.entry_at h4 j
      rw [hen] at qe
      cases hb : xs[j]? with
      | none => rw [hb] at qe; cases qe
      | some b =>
        rw [hb] at qe
        have e2 := Option.some.inj qe
        rw [hv, e2]
        rfl
  have hf := I.hok.fresh (Nat.le_refl s.heap.objs.size)
  have I2 : L2.Inv X pins σ (upd H s.heap.objs.size (.lst ((xs.map (·.2.1)).map V.ref))) { heap := h', gens := s.gens, drawn := s.drawn, toks := tk, os := s.os } :=
    I.laid (t' := tk) kp (Nat.le_refl _) ⟨by rw [List.length_map, List.length_map]; exact hz, acc.toList, c', by rw [ea]; exact vals_refs _, hl⟩
  refine ⟨.ref _, _, I2, rfl, q _ _ ?_ hf⟩
  have key : ∀ {xs : List NEnt} {ks : List (U × U)}, RelN (kwX X) H xs ks → RelL (kwX X) H ((xs.map (·.2.1)).map V.ref) (ks.map (·.1)) := fun r => by
    induction r with
    | nil => exact .nil
    | cons a _ ih => exact .cons a.1.2.2 ih
  exact key rn
theorem n_getItem (hu : A.units + 66 < cLine) (I : L2.Inv X pins σ H s) (S : Sim (kwX X) H M) {p : Addr} {ks : List (U × U)} (hm : M p = some (.dcn ks)) {k w : U} {v : V} {u : Value} (hk : isKeyN k = true) (r : Rel (kwX X) H v k) (rv : RelV v u) (hw : dfind ks k = some w) {Q : Value → Shared → Prop}
    (q : ∀ y y' s', L2.Inv X pins σ H s' → RelV y y' → Rel (kwX X) H y w → Q y' s') : wpAny (model X.prog X.w) A (getItem (.ref p) u) Q E s := by
  obtain ⟨xs, e, rn, dd, hs, hz⟩ := dcn_of I S hm
  obtain ⟨a, rfl⟩ := keyN_ref hk r
  obtain rfl : u = Value.ref a := rv
  rcases rn.find hk with ⟨h1, h2⟩ | ⟨q0, y, w', h1, h2, h3, h4⟩
  · rw [hw] at h2; cases h2
  · rw [hw] at h2
    cases h2
    exact wpAny_getItem_heap (knd := nestedKind X.prog X.w) (show A.in1.units + 8 < cLine by unfold Around.in1; simp only; omega) (keyN_is I.hok hk r) dd h1 (q y _ _ (I.tok _) h3 h4)
theorem n_setItem (hu : A.units + 66 < cLine) (I : L2.Inv X pins σ H s) (S : Sim (kwX X) H M) {p : Addr} {ks : List (U × U)} (hm : M p = some (.dcn ks)) (hl : ks.length < LIM) {k w : U} {v y : V} {u x : Value} (hk : isKeyN k = true) (r : Rel (kwX X) H v k) (rv : RelV v u) (ry : RelV y x) (rw' : Rel (kwX X) H y w) {Q : Unit → Shared → Prop}
    (q : ∀ H' s', L2.Inv X pins σ H' s' → Stp H M H' (um M p (.dcn (dput ks k w))) → Sim (kwX X) H' (um M p (.dcn (dput ks k w))) → Q () s') : wpAny (model X.prog X.w) A (setItem (.ref p) u x) Q E s := by
  obtain ⟨xs, e, rn, dd, hs, hz⟩ := dcn_of I S hm
  obtain ⟨a, rfl⟩ := keyN_ref hk r
  obtain rfl : u = Value.ref a := rv
  refine wpAny_setItem_heap (knd := nestedKind X.prog X.w) (show A.in1.units + 8 < cLine by unfold Around.in1; simp only; omega) (keyN_is I.hok hk r) dd (fun h' dd' sb => ?_) hz
  obtain ⟨o, es, ep, h1, h2, h3, h4, h5, h6⟩ := dd'
  have hd : dcnP X.w p (storedH xs (nk k) a x) h' := ⟨o, es, ep, h1, h2, h3, h4, h6⟩
  have I2 : L2.Inv X pins σ (upd H p (.ext (dcnP X.w p (storedH xs (nk k) a x)))) { heap := h', gens := s.gens, drawn := s.drawn, toks := s.toks + (nestedKind X.prog X.w).draws (nk k), os := s.os } :=
    d_write (t' := s.toks + (nestedKind X.prog X.w).draws (nk k)) I (by rw [e]; trivial) sb ⟨o, h1⟩ (dcn_ok hd)
  have st : Stp H M (upd H p (.ext (dcnP X.w p (storedH xs (nk k) a x)))) (um M p (.dcn (dput ks k w))) := Stp.mut hm
  have rn2 : RelN (kwX X) (upd H p (.ext (dcnP X.w p (storedH xs (nk k) a x)))) (storedH xs (nk k) a x) (dput ks k w) := RelN.put (Paired.mapR rn fun p q x => ⟨⟨x.1.1, x.1.2.1, x.1.2.2.stp S st⟩, x.2.elim fun v y => ⟨v, y.1, y.2.stp S st⟩⟩) hk (r.stp S st) ry (rw'.stp S st)
  have hz2 : (storedH xs (nk k) a x).length ≤ sizeLine := by
    have h1 : (dput ks k w).length ≤ ks.length + 1 := by
      unfold dput
      split
      · rw [List.length_map]; omega
      · rw [List.length_append]; exact Nat.le_refl _
    rw [rn2.len]
    have := lim_line
    omega
  exact q _ _ I2 st (S.mut (m := .dcn (dput ks k w)) hm rfl ⟨_, upd_same, rn2, hs, hz2⟩)
/-- {} -/
def tDNewN (X : Cx) : TE := fun _ H Q => ∀ p, H p = none → (p == sysModules) = false → Q (.ref p) (upd H p (.ext (dcnP X.w p [])))
theorem pe_dnewN {pos : Pos} : PE X (.Dict [] [] pos) (tDNewN X) := by
  refine ⟨fun pins s σ H Q I h => wpAny_Dict_empty ?_⟩
  obtain ⟨_, hs, _⟩ := dt_empty (P := X.prog) (w := X.w) (H := H) s.heap I.big
  have d : dcnP X.w s.heap.objs.size [] (s.heap.push { cls := .type "dict", data := .dict #[] }) := ⟨_, #[], _, Heap.get?_push_size _ rfl, ⟨rfl, rfl, rfl⟩, rfl, rfl, List.nodup_nil⟩
  refine ⟨.ref s.heap.objs.size, upd H s.heap.objs.size (.ext (dcnP X.w s.heap.objs.size [])), I.laid (t' := s.toks) (fun b o e => Heap.get?_push_of_some _ e) (Nat.le_refl _) (dcn_ok d), rfl, h _ (I.hok.fresh (Nat.le_refl _)) hs⟩
end
end Pl

set_option maxHeartbeats 4000000
namespace Pl
open PySem L2
/-- a comparison: the value is a bool -/
def asB (f : U → U → Hm → (Bool → Hm → Prop) → Prop) : U → U → Hm → QU → Prop := fun a b M Q => f a b M fun k M => Q (.bl k) M
section
variable {X : Cx}
theorem eq_case {a b : U} {M : Hm} {Q : Bool → Hm → Prop} (h : eqW a b M Q) :
    (∃ i j, a = .bl i ∧ b = .bl j ∧ Q (i == j) M) ∨ (∃ i j, a = .int i ∧ b = .int j ∧ Q (decide (i = j)) M) ∨ (∃ i j, a = .str i ∧ b = .str j ∧ Q (decide (i = j)) M) ∨
    (∃ p q us ws, a = .ref p ∧ b = .ref q ∧ M p = some (.lst us) ∧ M q = some (.lst ws) ∧ okL us = true ∧ okL ws = true ∧ Q (decide (us = ws)) M) ∨ (okU a = true ∧ okU b = true ∧ Q (decide (a = b)) M) := by
  unfold eqW at h
  split at h
  · exact .inl ⟨_, _, rfl, rfl, h⟩
  · exact .inr (.inl ⟨_, _, rfl, rfl, h⟩)
  · exact .inr (.inr (.inl ⟨_, _, rfl, rfl, h⟩))
  · obtain ⟨us, ws, h1, h2, h3, h4, h5⟩ := h
    exact .inr (.inr (.inr (.inl ⟨_, _, us, ws, rfl, rfl, h1, h2, h3, h4, h5⟩)))
  · exact .inr (.inr (.inr (.inr h)))
theorem okL_dp {K : Kw} {H : Hp} {M : Hm} (S : Sim K H M) {p : Addr} {us : List U} (h : M p = some (.lst us)) (ok : okL us = true) : Dp K H (.ref p) (.list (pdL us)) := by
  obtain ⟨vs, e, r⟩ := S p _ h
  exact .lst (.inl (.inl e)) (ok_dpL 59 us vs (okL_all ok) r)
theorem op_eqS (hu : X.A.units + 64 < cLine) : OpR X (compareOp .Eq) (R2s (kwX X) (asB eqW)) := by
  intro pins s σ H x y v u Q I rx ry h
  obtain ⟨a, b, M, Qu, S, ra, rb, hf, c⟩ := h
  rcases eq_case hf with ⟨i, j, rfl, rfl, q⟩ | ⟨i, j, rfl, rfl, q⟩ | ⟨i, j, rfl, rfl, q⟩ | ⟨p, p', us, ws, rfl, rfl, h1, h2, h3, h4, q⟩ | ⟨h1, h2, q⟩
  · cases ra; cases rb
    refine op_eq pins s σ H _ _ v u Q I rx ry ⟨rfl, ?_⟩
    rw [dec_bl]
    exact c.at_ S (.bl _) q
  · cases ra; cases rb
    refine op_eq pins s σ H _ _ v u Q I rx ry ⟨rfl, ?_⟩
    rw [dec_int, Bool.beq_eq_decide_eq]
    exact c.at_ S (.bl _) q
  · cases ra; cases rb
    refine op_eq pins s σ H _ _ v u Q I rx ry ⟨rfl, ?_⟩
    rw [dec_str, Bool.beq_eq_decide_eq]
    exact c.at_ S (.bl _) q
  · cases ra; cases rb
    refine op_eqD hu pins s σ H _ _ v u Q I rx ry ⟨_, _, okL_dp S h1 h3, okL_dp S h2 h4, okL_shaped h3, okL_shaped h4, ?_⟩
    have e : PyData.eqv (.list (pdL us)) (.list (pdL ws)) = decide (us = ws) := by
      rw [PyData.eqv]
      exact ok_eqvL 59 us 59 ws (okL_all h3) (okL_all h4)
    rw [e]
    exact c.at_ S (.bl _) q
  · refine op_eqD hu pins s σ H _ _ v u Q I rx ry ⟨_, _, ok_dp 60 a x h1 ra, ok_dp 60 b y h2 rb, ok_shaped h1 (by decide), ok_shaped h2 (by decide), ?_⟩
    rw [ok_eqv 60 a 60 b h1 h2]
    exact c.at_ S (.bl _) q
theorem op_neS (hu : X.A.units + 64 < cLine) : OpR X (compareOp .NotEq) (R2s (kwX X) (asB fun x y M Q => eqW x y M fun b M => Q (!b) M)) := by
  intro pins s σ H x y v u Q I rx ry h
  obtain ⟨a, b, M, Qu, S, ra, rb, hf, c⟩ := h
  have hf : eqW a b M fun b M => Qu (.bl (!b)) M := hf
  rcases eq_case hf with ⟨i, j, rfl, rfl, q⟩ | ⟨i, j, rfl, rfl, q⟩ | ⟨i, j, rfl, rfl, q⟩ | ⟨p, p', us, ws, rfl, rfl, h1, h2, h3, h4, q⟩ | ⟨h1, h2, q⟩
  · cases ra; cases rb
    refine op_ne pins s σ H _ _ v u Q I rx ry ⟨rfl, ?_⟩
    rw [dec_bl]
    exact c.at_ S (.bl _) q
  · cases ra; cases rb
    refine op_ne pins s σ H _ _ v u Q I rx ry ⟨rfl, ?_⟩
    rw [dec_int, Bool.beq_eq_decide_eq]
    exact c.at_ S (.bl _) q
  · cases ra; cases rb
    refine op_ne pins s σ H _ _ v u Q I rx ry ⟨rfl, ?_⟩
    rw [dec_str, Bool.beq_eq_decide_eq]
    exact c.at_ S (.bl _) q
  · cases ra; cases rb
    refine op_neD hu pins s σ H _ _ v u Q I rx ry ⟨_, _, okL_dp S h1 h3, okL_dp S h2 h4, okL_shaped h3, okL_shaped h4, ?_⟩
    have e : PyData.eqv (.list (pdL us)) (.list (pdL ws)) = decide (us = ws) := by
      rw [PyData.eqv]
      exact ok_eqvL 59 us 59 ws (okL_all h3) (okL_all h4)
    rw [e]
    exact c.at_ S (.bl _) q
  · refine op_neD hu pins s σ H _ _ v u Q I rx ry ⟨_, _, ok_dp 60 a x h1 ra, ok_dp 60 b y h2 rb, ok_shaped h1 (by decide), ok_shaped h2 (by decide), ?_⟩
    rw [ok_eqv 60 a 60 b h1 h2]
    exact c.at_ S (.bl _) q
theorem op_inS (hu : X.A.units + 66 < cLine) : OpR X (compareOp .In) (R2s (kwX X) (asB (inW false))) := by
  intro pins s σ H x y v u Q I rx ry h
  obtain ⟨a, b, M, Qu, S, ra, rb, hf, c⟩ := h
  have hf : inW false a b M fun b M => Qu (.bl b) M := hf
  unfold inW at hf
  split at hf
  · obtain ⟨_, _, ⟨h3, h4⟩, q⟩ := hf
    cases rb with
    | tup t r =>
      obtain ⟨ks, e1, e2⟩ := isKeys_of h3 r
      obtain ⟨k, e3, e4⟩ := isKey_of h4 ra
      subst e1 e2 e3 e4
      refine op_in_seq pins s σ H _ _ v u Q I rx ry ⟨_, _, rfl, .inr t.sq, by cases k <;> rfl, flat_keys ks, ?_⟩
      rw [if_neg (by decide), relL_in]
      rw [if_neg (by decide)] at q
      exact c.at_ S (.bl _) q
  · obtain ⟨⟨h3, h4⟩, q⟩ := hf
    cases rb with
    | dtp t r =>
      obtain ⟨ks, e1, e2⟩ := isKeys_of h3 r
      obtain ⟨k, e3, e4⟩ := isKey_of h4 ra
      subst e1 e2 e3 e4
      refine op_in_seq pins s σ H _ _ v u Q I rx ry ⟨_, _, rfl, .inr t.sq, by cases k <;> rfl, flat_keys ks, ?_⟩
      rw [if_neg (by decide), relL_in]
      rw [if_neg (by decide)] at q
      exact c.at_ S (.bl _) q
  · rcases hf with ⟨us, h1, h2, h3, q⟩ | ⟨z, t, ks, h1, h2, q⟩ | ⟨ks, h1, h2, q⟩
    · cases rb
      refine op_inD (by omega) pins s σ H _ _ v u Q I rx ry ⟨_, _, ok_dp 60 a x h2 ra, okL_dp S h1 h3, ok_shaped h2 (by decide), okL_shaped h3, ?_⟩
      rw [any_eqv h2 us (okL_all h3)]
      exact c.at_ S (.bl _) q
    · obtain ⟨o, g, q2⟩ := dget_of S h1 h2 ra
      cases rb
      obtain rfl : u = Value.ref _ := ry
      have e : o.isSome = (dfind ks a).isSome := by
        rcases q2 with ⟨e1, e2⟩ | ⟨_, _, e1, e2, _⟩ <;> rw [e1, e2] <;> rfl
      refine d_in (by omega) I g rx fun s' I' => ⟨.bl _, H, I', rfl, ?_⟩
      rw [e]
      exact c.at_ S (.bl _) q
    · cases rb
      obtain rfl : u = Value.ref _ := ry
      exact n_in (by omega) I S h1 h2 ra rx fun s' I' => ⟨.bl _, H, I', rfl, c.at_ S (.bl _) q⟩
  · exact hf.elim
theorem op_notinS (hu : X.A.units + 66 < cLine) : OpR X (compareOp .NotIn) (R2s (kwX X) (asB (inW true))) := by
  intro pins s σ H x y v u Q I rx ry h
  obtain ⟨a, b, M, Qu, S, ra, rb, hf, c⟩ := h
  have hf : inW true a b M fun b M => Qu (.bl b) M := hf
  unfold inW at hf
  split at hf
  · obtain ⟨_, _, ⟨h3, h4⟩, q⟩ := hf
    cases rb with
    | tup t r =>
      obtain ⟨ks, e1, e2⟩ := isKeys_of h3 r
      obtain ⟨k, e3, e4⟩ := isKey_of h4 ra
      subst e1 e2 e3 e4
      refine op_notIn_seq pins s σ H _ _ v u Q I rx ry ⟨_, _, rfl, .inr t.sq, by cases k <;> rfl, flat_keys ks, ?_⟩
      rw [if_pos rfl, relL_in]
      rw [if_pos rfl] at q
      exact c.at_ S (.bl _) q
  · obtain ⟨⟨h3, h4⟩, q⟩ := hf
    cases rb with
    | dtp t r =>
      obtain ⟨ks, e1, e2⟩ := isKeys_of h3 r
      obtain ⟨k, e3, e4⟩ := isKey_of h4 ra
      subst e1 e2 e3 e4
      refine op_notIn_seq pins s σ H _ _ v u Q I rx ry ⟨_, _, rfl, .inr t.sq, by cases k <;> rfl, flat_keys ks, ?_⟩
      rw [if_pos rfl, relL_in]
      rw [if_pos rfl] at q
      exact c.at_ S (.bl _) q
  · rcases hf with ⟨us, h1, h2, h3, q⟩ | ⟨z, t, ks, h1, h2, q⟩ | ⟨ks, h1, h2, q⟩
    · cases rb
      refine op_notInD (by omega) pins s σ H _ _ v u Q I rx ry ⟨_, _, ok_dp 60 a x h2 ra, okL_dp S h1 h3, ok_shaped h2 (by decide), okL_shaped h3, ?_⟩
      rw [any_eqv h2 us (okL_all h3)]
      exact c.at_ S (.bl _) q
    · obtain ⟨o, g, q2⟩ := dget_of S h1 h2 ra
      cases rb
      obtain rfl : u = Value.ref _ := ry
      have e : o.isSome = (dfind ks a).isSome := by
        rcases q2 with ⟨e1, e2⟩ | ⟨_, _, e1, e2, _⟩ <;> rw [e1, e2] <;> rfl
      refine d_notIn (by omega) I g rx fun s' I' => ⟨.bl _, H, I', rfl, ?_⟩
      rw [e]
      exact c.at_ S (.bl _) q
    · cases rb
      obtain rfl : u = Value.ref _ := ry
      exact n_notIn (by omega) I S h1 h2 ra rx fun s' I' => ⟨.bl _, H, I', rfl, c.at_ S (.bl _) q⟩
  · exact hf.elim
theorem op_cmpS (hu : X.A.units + 66 < cLine) (op : Cop) : OpR X (compareOp (copOf op)) (R2s (kwX X) (asB (cmpW op))) := by
  cases op with
  | eq => exact op_eqS (by omega)
  | ne => exact op_neS (by omega)
  | isin => exact op_inS hu
  | notin => exact op_notinS hu
  | lt =>
    intro pins s σ H x y v u Q I rx ry h
    obtain ⟨a, b, M, Qu, S, ra, rb, hf, c⟩ := h
    unfold asB cmpW at hf
    simp only at hf
    split at hf
    · cases ra; cases rb; exact op_lt pins s σ H _ _ v u Q I rx ry ⟨_, _, rfl, rfl, c.at_ S (.bl _) hf⟩
    · exact hf.elim
  | le =>
    intro pins s σ H x y v u Q I rx ry h
    obtain ⟨a, b, M, Qu, S, ra, rb, hf, c⟩ := h
    unfold asB cmpW at hf
    simp only at hf
    split at hf
    · cases ra; cases rb; exact op_le pins s σ H _ _ v u Q I rx ry ⟨_, _, rfl, rfl, c.at_ S (.bl _) hf⟩
    · exact hf.elim
  | gt =>
    intro pins s σ H x y v u Q I rx ry h
    obtain ⟨a, b, M, Qu, S, ra, rb, hf, c⟩ := h
    unfold asB cmpW at hf
    simp only at hf
    split at hf
    · cases ra; cases rb; exact op_gt pins s σ H _ _ v u Q I rx ry ⟨_, _, rfl, rfl, c.at_ S (.bl _) hf⟩
    · exact hf.elim
  | ge =>
    intro pins s σ H x y v u Q I rx ry h
    obtain ⟨a, b, M, Qu, S, ra, rb, hf, c⟩ := h
    unfold asB cmpW at hf
    simp only at hf
    split at hf
    · cases ra; cases rb; exact op_ge pins s σ H _ _ v u Q I rx ry ⟨_, _, rfl, rfl, c.at_ S (.bl _) hf⟩
    · exact hf.elim

/-! ### truth -/
def TrS (K : Kw) : V → Hp → (Bool → Hp → Prop) → Prop := fun x H Q => ∃ a M Qu, Sim K H M ∧ Rel K H x a ∧ truW a M Qu ∧ ContB K H M Qu Q
theorem tru_of {K : Kw} {x : V} {H : Hp} {Q : Bool → Hp → Prop} (h : TrS K x H Q) : ∃ k, TruV K x H k ∧ Q k H := by
  obtain ⟨a, M, Qu, S, r, t, c⟩ := h
  unfold truW at t
  split at t
  · cases r; exact ⟨_, rfl, c _ _ _ (Stp.refl H M) S t⟩
  · cases r; exact ⟨_, rfl, c _ _ _ (Stp.refl H M) S t⟩
  · rename_i z
    cases r
    refine ⟨_, ⟨le_line t.1, rfl⟩, ?_⟩
    have e : ((z.length : Int) != 0) = (z.length != 0) := by
      by_cases h : z.length = 0
      · rw [h]; rfl
      · have h2 : (z.length : Int) ≠ 0 := by omega
        rw [bne_iff_ne.mpr h2, bne_iff_ne.mpr h]
    rw [e]
    exact c _ _ _ (Stp.refl H M) S t.2
  · cases r; exact ⟨_, rfl, c _ _ _ (Stp.refl H M) S t⟩
  · cases r with
    | tup t1 r1 =>
      refine ⟨_, .inr (.inl ⟨_, t1.sq, rfl⟩), ?_⟩
      rw [r1.isEmpty]
      exact c _ _ _ (Stp.refl H M) S t
  · rename_i p
    cases r
    rcases t with ⟨us, h1, q⟩ | ⟨ks, h1, q⟩
    · obtain ⟨vs, e, r1⟩ := S _ _ h1
      refine ⟨_, .inl ⟨_, .inl (.inl e), rfl⟩, ?_⟩
      rw [r1.isEmpty]
      exact c _ _ _ (Stp.refl H M) S q
    · obtain ⟨kvs, e, r1⟩ := S _ _ h1
      refine ⟨_, .inr (.inr ⟨kvs, e, rfl⟩), ?_⟩
      have e2 : kvs.isEmpty = ks.isEmpty := by cases r1 <;> rfl
      rw [e2]
      exact c _ _ _ (Stp.refl H M) S q
  · exact t.elim
  · cases r with
    | dtp t1 r1 =>
      refine ⟨_, .inr (.inl ⟨_, t1.sq, rfl⟩), ?_⟩
      rw [r1.isEmpty]
      exact c _ _ _ (Stp.refl H M) S t

/-! ### subscripts -/
theorem ix_pure {K : Kw} {H : Hp} {vs : List V} {us : List U} (r : RelL K H vs us) {j : Int} {u : U} (h : atI us j = some u) : ∃ v, atI vs j = some v ∧ Rel K H v u := by
  unfold atI at h ⊢
  rw [r.length]
  cases e : ixN us.length j with
  | none => rw [e] at h; cases h
  | some k =>
    rw [e] at h
    exact r.get h
theorem ix_S (hu : X.A.units + 66 < cLine) : IxR X (R2s (kwX X) ixW) := by
  intro vl sl pins s σ H x y v u Q I rx ry h hs
  obtain ⟨a, b, M, Qu, S, ra, rb, hf, c⟩ := h
  unfold ixW at hf
  split at hf
  · obtain ⟨j, w, rfl, e, q⟩ := hf
    cases rb
    cases ra with
    | dtp t r =>
      obtain ⟨v1, e1, r1⟩ := ix_pure r e
      exact ix_tup vl sl pins s σ H _ _ v u Q I rx ry ⟨_, _, _, _, rfl, rfl, t.sq, e1, c.at_ S r1 q⟩ hs
  · obtain ⟨j, w, rfl, e, q⟩ := hf
    cases rb
    cases ra with
    | tup t r =>
      obtain ⟨v1, e1, r1⟩ := ix_pure r e
      exact ix_tup vl sl pins s σ H _ _ v u Q I rx ry ⟨_, _, _, _, rfl, rfl, t.sq, e1, c.at_ S r1 q⟩ hs
  · rcases hf with ⟨us, j, w, h1, rfl, e, q⟩ | ⟨z, t, ks, w, h1, h2, e, q⟩ | ⟨ks, w, h1, h2, e, q⟩
    · cases rb
      cases ra
      obtain ⟨vs, e2, r⟩ := S _ _ h1
      obtain ⟨v1, e1, r1⟩ := ix_pure r e
      exact ix_list vl sl pins s σ H _ _ v u Q I rx ry ⟨_, _, _, _, rfl, rfl, .inl (.inl e2), e1, c.at_ S r1 q⟩ hs
    · obtain ⟨o, g, q2⟩ := dget_of S h1 h2 rb
      cases ra
      obtain rfl : v = Value.ref _ := rx
      rcases q2 with ⟨_, e2⟩ | ⟨v1, u1, e1, e2, r1⟩
      · rw [e] at e2; cases e2
      · rw [e] at e2
        cases e2
        subst e1
        exact PyProof.Rows.tail_any (dict_typeIs I g) PySem.F.slot_dict_getitem.lookup (d_getItem (by omega) I g ry fun w' s' I' rw' => ⟨_, H, I', rw', c.at_ S r1 q⟩) hs
    · cases ra
      obtain rfl : v = Value.ref _ := rx
      exact PyProof.Rows.tail_any (dcn_typeIs I S h1) PySem.F.slot_dict_getitem.lookup (n_getItem (by omega) I S h1 h2 rb ry e fun y y' s' I' ry' r' => ⟨y, H, I', ry', c.at_ S r' q⟩) hs
  · obtain ⟨j, cc, rfl, hl, e, q⟩ := hf
    cases ra; cases rb
    exact ix_str vl sl pins s σ H _ _ v u Q I rx ry ⟨_, _, _, rfl, rfl, le_line hl, e, c.at_ S (.str _) q⟩ hs
  · exact hf.elim
end
end Pl

set_option maxHeartbeats 400000
/-! sorted, over data -/
namespace Pl
open PySem L2
mutual
theorem reads_pd : ∀ (n : Nat) (u : U) (h : Heap) (v : Value) (as : List Addr), u.ok n = true → Reads h v (pd u) as → as = []
  | _, .non, _, _, _, _, r => by unfold pd at r; cases r; rfl
  | _, .int i, _, _, _, _, r => by unfold pd at r; cases r; rfl
  | _, .str x, _, _, _, _, r => by unfold pd at r; cases r; rfl
  | n + 1, .tup l, h, _, _, ok, r => by
    unfold pd at r
    cases r with
    | tuple a b c d => exact reads_pdL n l h _ _ (by simpa [U.ok] using ok) d
  | 0, .tup l, _, _, _, ok, _ => by simp [U.ok] at ok
  | _, .bl _, _, _, _, ok, _ => by simp [U.ok] at ok
  | _, .ref _, _, _, _, ok, _ => by simp [U.ok] at ok
  | _, .rol _, _, _, _, ok, _ => by simp [U.ok] at ok
  | _, .dtp _, _, _, _, ok, _ => by simp [U.ok] at ok
theorem reads_pdL : ∀ (n : Nat) (l : List U) (h : Heap) (vs : List Value) (as : List Addr), (∀ x ∈ l, x.ok n = true) → ReadsAll h vs (pdL l) as → as = []
  | _, [], _, _, _, _, r => by unfold pdL at r; cases r; rfl
  | n, x :: xs, h, _, _, ok, r => by
    unfold pdL at r
    cases r with
    | cons a b => rw [reads_pd n x h _ _ (ok x List.mem_cons_self) a, reads_pdL n xs h _ _ (fun y hy => ok y (List.mem_cons_of_mem _ hy)) b]; rfl
end
theorem relK_keys {K : Kw} {H : Hp} : ∀ {kvs : List (Key × V)} {ks : List (U × U)}, RelK K H kvs ks → RelL K H (kvs.map fun kv => kV kv.1) (ks.map (·.1))
  | [], _, r => by unfold RelK at r; cases r; exact .nil
  | (k, v) :: kvs, _, r => by
    unfold RelK at r
    cases r with
    | @cons p q ps qs a b =>
      rw [List.map_cons, List.map_cons]
      refine .cons ?_ (relK_keys b)
      rw [a.1]
      cases k with
      | inl i => exact .int i
      | inr x => exact .str x
theorem relL_keys {K : Kw} {H : Hp} : ∀ k : List Key, RelL K H (k.map kV) (k.map keyU)
  | [] => .nil
  | .inl i :: r => .cons (.int i) (relL_keys r)
  | .inr i :: r => .cons (.str i) (relL_keys r)
/-- a call by values -/
def CRs (K : Kw) (g : List U → Hm → QU → Prop) : List V → Hp → VK → Prop := fun xs H Q => ∃ us M Qu, Sim K H M ∧ RelL K H xs us ∧ g us M Qu ∧ Cont K H M Qu Q
theorem paired_get {α β : Type} {F : α → β → Prop} : ∀ {as : List α} {bs : List β} {i : Nat} {a : α}, Paired F as bs → as[i]? = some a → ∃ b, bs[i]? = some b ∧ F a b
  | _, _, i, _, .nil, h => by simp at h
  | _, _, 0, _, .cons q _, h => ⟨_, rfl, by simp at h; rw [← h]; exact q⟩
  | _, _, i + 1, _, .cons _ r, h => by
    obtain ⟨b, e, q⟩ := paired_get r (by simpa using h)
    exact ⟨b, by simpa using e, q⟩
section
variable {X : Cx} {pins : List (Addr × Obj)} {σ : L2.St} {H : Hp} {s : Shared} {Q : VK} {M : Hm} {Qu : QU}
theorem each_of {us : List Value} {vs : List V} (r : Vals vs us) : ∀ {ws : List U}, vs.length = ws.length → W.EachIs (fun u (b : V × U) => RelV b.1 u) us (vs.zip ws) := by
  induction r with
  | nil => intro ws h; exact .nil
  | cons a _ ih =>
    intro ws h
    cases ws with
    | nil => cases h
    | cons w ws => exact .cons a (ih (by simpa using h))
theorem each_rev {us : List Value} {bs : List (V × U)} (r : W.EachIs (fun u (b : V × U) => RelV b.1 u) us bs) : Vals (bs.map (·.1)) us := by
  induction r with
  | nil => exact .nil
  | cons a _ ih => exact .cons a ih
theorem relL_zip {K : Kw} : ∀ {vs : List V} {ws : List U}, RelL K H vs ws → ∀ b ∈ vs.zip ws, Rel K H b.1 b.2 := by
  intro vs ws r
  induction vs generalizing ws with
  | nil => intro b hb; cases hb
  | cons v vs ih =>
    cases r with
    | cons a r =>
      intro b hb
      rw [List.zip_cons_cons] at hb
      rcases List.mem_cons.mp hb with e | hb
      · subst e; exact a
      · exact ih r b hb
theorem relL_of_all {K : Kw} : ∀ {bs : List (V × U)}, (∀ b ∈ bs, Rel K H b.1 b.2) → RelL K H (bs.map (·.1)) (bs.map (·.2))
  | [], _ => .nil
  | b :: bs, h => .cons (h b List.mem_cons_self) (relL_of_all fun c hc => h c (List.mem_cons_of_mem _ hc))
theorem each_reads (I : L2.Inv X pins σ H s) {h' : Heap} (hk : ∀ b o, s.heap.get? b = some o → h'.get? b = some o) (a0 : Addr) {us : List Value} {bs : List (V × U)} (e1 : W.EachIs (fun u (b : V × U) => RelV b.1 u) us bs) (dp : ∀ b ∈ bs, Rel (kwX X) H b.1 b.2) (okz : ∀ b ∈ bs, b.2.ok 59 = true) :
    W.EachIs (fun v (b : V × U) => ∃ as, Reads h' v (pd b.2) as ∧ ¬ a0 ∈ as) us bs := by
  induction e1 with
  | nil => exact .nil
  | @cons u b us' bs' a _ ih =>
    refine .cons ?_ (ih (fun b hb => dp b (List.mem_cons_of_mem _ hb)) (fun b hb => okz b (List.mem_cons_of_mem _ hb)))
    have hd := ok_dp 59 b.2 b.1 (okz b List.mem_cons_self) (dp b List.mem_cons_self)
    obtain ⟨as, hr⟩ := hd.reads I _ _ _ a
    have h0 := reads_pd 59 b.2 _ _ _ (okz b List.mem_cons_self) hr
    subst h0
    exact ⟨[], PyProof.Rows.Reads.keeps hk hr, List.not_mem_nil⟩
theorem sort_tail (I : L2.Inv X pins σ H s) (hu : X.A.units + 66 < cLine) (S : Sim (kwX X) H M) (c : Cont (kwX X) H M Qu Q) {vs : List V} {us : List Value} {ws : List U} (rv : Vals vs us) (rl : RelL (kwX X) H vs ws) (ok : sortOk ws) (hq : ∀ a, M a = none → Qu (.ref a) (um M a (.lst (sortU ws))))
    {h1 : Heap} {tk : Nat} (hk : ∀ (b : Addr) (u : Obj), s.heap.get? b = some u → h1.get? b = some u) :
    wpAny (model X.prog X.w) X.A.in1 (newList us >>= fun l => holding [l] (call (.builtin "list.sort") [l]) >>= fun _ => PySem.ret l) (fun fin s' => ∃ v, fin = Fin.done (Flow.ret v) ∧ EP X pins σ Q v s') X.xe ⟨h1, s.gens, s.drawn, tk, s.os⟩ := by
  obtain ⟨ok1, ok2, ok3, ok4⟩ := ok
  have okA : ∀ x ∈ ws, x.ok 59 = true := List.all_eq_true.mp ok1
  have I1 : L2.Inv X pins σ H ⟨h1, s.gens, s.drawn, tk, s.os⟩ := I.kept hk
  have el : vs.length = ws.length := rl.length
  have e1 : W.EachIs (fun u (b : V × U) => RelV b.1 u) us (vs.zip ws) := each_of rv el
  have eu : us.length = ws.length := by rw [e1.length, List.length_zip, el, Nat.min_self]
  have esnd : (vs.zip ws).map (fun b => pd b.2) = ws.map pd := by
    rw [show (fun b : V × U => pd b.2) = pd ∘ Prod.snd from rfl, ← List.map_map, List.map_snd_zip (by omega)]
  have hL : us.length ≤ sizeLine := by rw [eu, sizeLine_eq]; unfold LIM at ok4; omega
  refine wpAny_bind (wpAny_newList ?_ hL)
  have hoL : (h1.push (PyProof.Rows.seqObj "list" us.toArray 0)).get? h1.objs.size = some (PyProof.Rows.seqObj "list" us.toArray 0) := Heap.get?_push_size h1 rfl
  refine wpAny_bind (wpAny_holding (W.list_sort_data (n := 0) (bs := vs.zip ws) (enc := fun b => pd b.2) (R := fun u b => RelV b.1 u) hoL e1 ?_ (by rw [esnd]; exact ok2) (by rw [esnd]; exact ok3) (by rw [← e1.length]; exact hL) ?_ ?_))
  · exact each_reads I1 (fun b o e => Heap.get?_push_of_some _ e) _ e1 (relL_zip rl) (fun b hb => okA _ (List.of_mem_zip hb).2)
  · intro b hb
    have := (ok_lay 59 b.2 (okA _ (List.of_mem_zip hb).2)).2
    show X.A.units + 1 + 1 + _ < _
    omega
  · intro out hlen heach
    obtain ⟨e', he'⟩ := PyProof.Rows.sortedHeap_at (out := out.toArray) hoL
    have hs : ((vs.zip ws).mergeSort (W.dataLe false fun b => pd b.2)).map Prod.snd = sortU ws := by
      have := W.sort_maps (r := W.dataLe false fun b : V × U => pd b.2) (s := W.dataLe false pd) Prod.snd (l := vs.zip ws) (fun a _ b _ => rfl)
      rw [this, List.map_snd_zip (by omega)]
      rfl
    have hrel : RelL (kwX X) H (((vs.zip ws).mergeSort (W.dataLe false fun b => pd b.2)).map Prod.fst) (sortU ws) := by
      rw [← hs]
      exact relL_of_all fun b hb => relL_zip rl b (List.mem_mergeSort.mp hb)
    have hout := each_rev heach
    refine wpAny_pure ⟨_, rfl, V.ref h1.objs.size, upd H h1.objs.size (.lst (((vs.zip ws).mergeSort (W.dataLe false fun b => pd b.2)).map Prod.fst)), ?_, rfl, c.lst S hrel hq (I1.hok.fresh (Nat.le_refl _))⟩
    refine I1.laid (fun b u e => ?_) (Nat.le_refl _) ⟨?_, out, e', hout, he'⟩
    · have hb := Heap.lt_size e
      rw [PyProof.Rows.sortedHeap_old (Nat.ne_of_lt hb) (by rw [PyProof.Rows.size_push']; exact Nat.lt_succ_of_lt hb)]
      exact Heap.get?_push_of_some _ e
    · rw [hrel.length]
      unfold sortU
      rw [List.length_mergeSort, ← eu]
      exact hL
theorem vals1R {K : Kw} {H : Hp} {xs : List V} {u : U} (r : RelL K H xs [u]) : ∃ v, xs = [v] ∧ Rel K H v u := by
  cases r with
  | cons a b => cases b; exact ⟨_, rfl, a⟩
theorem vals_pt : ∀ {as : List V} {us : List Value}, as.length = us.length → (∀ (j : Nat) (a : V) (u : Value), as[j]? = some a → us[j]? = some u → RelV a u) → Vals as us
  | [], [], _, _ => .nil
  | a :: as, u :: us, h, p => .cons (p 0 a u rfl rfl) (vals_pt (by simpa using h) fun j a' u' h1 h2 => p (j + 1) a' u' (by simpa using h1) (by simpa using h2))
  | [], _ :: _, h, _ => by cases h
  | _ :: _, [], h, _ => by cases h
theorem relT_keys {K : Kw} {H : Hp} : ∀ {kvs : List (List Key × V)} {xs : List (List Key × Addr × Value)} {ks : List (U × U)}, KT H kvs xs → RelT K H kvs ks → RelL K H (xs.map fun x => V.ref x.2.1) (ks.map (·.1))
  | [], _, _, k, r => by unfold RelT at r; cases k; cases r; exact .nil
  | (k, v) :: kvs, _, _, kt, r => by
    unfold RelT at r
    cases kt with
    | cons a b => cases r with
      | @cons p q ps qs c d =>
        rw [List.map_cons, List.map_cons]
        refine .cons ?_ (relT_keys b d)
        rw [c.1]
        exact .tup a.2.1 (relL_keys k)
theorem relN_keys {K : Kw} {H : Hp} : ∀ {xs : List NEnt} {ks : List (U × U)}, RelN K H xs ks → RelL K H (xs.map fun x => V.ref x.2.1) (ks.map (·.1))
  | [], _, r => by cases r; exact .nil
  | x :: xs, _, r => by
    cases r with
    | cons a b => exact .cons a.1.2.2 (relN_keys b)
theorem cr_sortedS (hc : X.calm = true) (hu : X.A.units + 66 < cLine) : CallR X (.builtin "sorted") (CRs (kwX X) (bltW .sorted)) := by
  intro pins s σ H xs us Q I r h
  obtain ⟨as, M, Qu, S, ra, hf, c⟩ := h
  unfold bltW at hf
  split at hf <;> first | (rename_i e; cases e; done) | skip
  · obtain ⟨v, rfl, rv⟩ := vals1R ra
    cases rv
    rename_i p _
    obtain ⟨u, rfl, ru⟩ := vals1 r
    have eu : u = Value.ref p := ru
    subst eu
    refine Calls.call_function_entry PyProof.Rows.kind_sorted PyProof.Rows.plain_sorted PyProof.Rows.entry_sorted (PyProof.Rows.args_sorted1 _) ?_
    refine wpAny_bind (wpAny_pure (wpAny_bind ?_))
    rcases hf with ⟨ws, h1, ok, q⟩ | ⟨t, ks, h1, ok, q⟩ | ⟨ks, h1, ok, q⟩
    · obtain ⟨vs, e, rl⟩ := S _ _ h1
      have ob := I.hok _ _ e
      simp only [ObjOk] at ob
      obtain ⟨hlen, its, x, vals, get⟩ := ob
      have hl : its.length ≤ sizeLine := by rw [← vals.length]; exact hlen
      refine PyProof.Rows.collect_list (vs := its) ⟨_, get, rfl, _, rfl⟩ ?_ hl
      exact sort_tail I hu S c vals rl ok q fun b o e => by
        rw [Heap.get?_update_ne _ _ _ _ (Nat.ne_of_lt (Heap.lt_size e))]
        exact Heap.get?_push_of_some _ e
    · have q0 := S _ _ h1
      cases t with
      | false =>
        obtain ⟨kvs, e, rl⟩ := q0
        obtain ⟨z, lo, vs, rel, dd⟩ := dk_rd I.hok (.inl e)
        obtain ⟨ep, hat⟩ := dd.dictAt
        have el : vs.length = kvs.length := (Paired.length rel).symm
        refine W.kdu_collect (W.kdl_dict lo) (I.ok.hd hc) hat (by rw [el]; exact z) fun h' tk acc hk hacc => ?_
        refine sort_tail I hu S c (vals_pt (as := kvs.map fun kv => kV kv.1) ?_ fun j a u ha hu' => ?_) (relK_keys rl) ok q hk
        · have h5 := hacc.1
          show (kvs.map _).length = acc.toList.length
          rw [List.length_map, ← el, ← h5]
          exact Array.length_toList.symm
        · rw [Array.getElem?_toList] at hu'
          obtain ⟨k, x, e1, e2⟩ := hacc.2 j u hu'
          rw [List.getElem?_map] at ha
          cases h2 : kvs[j]? with
          | none => rw [h2] at ha; cases ha
          | some kv =>
            rw [h2] at ha
            cases ha
            obtain ⟨kv', h3, h4⟩ := paired_get rel h2
            rw [h3] at e1
            cases e1
            show RelV (kV kv.1) u
            rw [h4.1]
            cases k with
            | inl i =>
              obtain ⟨t, et⟩ := Value.isInt_shape e2
              exact ⟨t, et⟩
            | inr x =>
              obtain ⟨t, et⟩ := Value.isStrOf_shape e2
              exact ⟨t, et⟩
      | true =>
        obtain ⟨kvs, e, rl⟩ := q0
        obtain ⟨z, lo, xs, rel, o, es, ep, g1, g2, g3, g4, g5, g6⟩ := dt_rd I.hok (.inl e)
        have el : xs.length = kvs.length := (Paired.length rel).symm
        have esl : es.size = xs.length := by rw [← Array.length_toList, g4, List.length_map]
        refine W.kdu_collect (PySem.KdlSrc.rawDict (es := es) (ep := ep) lo) (I.ok.hd hc) ⟨o, g1, g2, g3⟩ (by rw [esl, el]; exact z) fun h' tk acc hk hacc => ?_
        refine sort_tail I hu S c (vals_pt (as := xs.map fun x => V.ref x.2.1) ?_ fun j a u ha hu' => ?_) (relT_keys rel rl) ok q hk
        · have h5 := hacc.1
          show (xs.map _).length = acc.toList.length
          rw [List.length_map, ← esl, ← h5]
          exact Array.length_toList.symm
        · rw [Array.getElem?_toList] at hu'
          obtain ⟨hi, e1⟩ := hacc.2 j u hu'
          rw [List.getElem?_map] at ha
          cases h2 : xs[j]? with
          | none => rw [h2] at ha; cases ha
          | some x =>
            rw [h2] at ha
            cases ha
            have e3 : es.toList[j]? = some (entryOfKey (tupleKind (mixKind X.prog X.w)) x) := by rw [g4, List.getElem?_map, h2]; rfl
            rw [Array.getElem?_toList, Array.getElem?_eq_getElem hi] at e3
            rw [e1, Option.some.inj e3]
            rfl
    · obtain ⟨xs, e, rn, ⟨o, es, ep, g1, g2, g3, g4, g5, g6⟩, lo, z⟩ := dcn_of I S h1
      have esl : es.size = xs.length := PySem.size_of_entries g4
      refine W.kdu_collect (PySem.KdlSrc.rawDict (es := es) (ep := ep) lo) (I.ok.hd hc) ⟨o, g1, g2, g3⟩ (by rw [esl]; exact z) fun h' tk acc hk hacc => ?_
      refine sort_tail I hu S c (vals_pt (as := xs.map fun x => V.ref x.2.1) ?_ fun j a u ha hu' => ?_) (relN_keys rn) ok q hk
      · have h5 := hacc.1
        show (xs.map _).length = acc.toList.length
        rw [List.length_map, ← esl, ← h5]
        exact Array.length_toList.symm
      · rw [Array.getElem?_toList] at hu'
        obtain ⟨hi, e1⟩ := hacc.2 j u hu'
        rw [List.getElem?_map] at ha
        cases h2 : xs[j]? with
        | none => rw [h2] at ha; cases ha
        | some x =>
          rw [h2] at ha
          cases ha
          have qe := PySem.entry_at g4 j
          rw [Array.getElem?_eq_getElem hi, h2] at qe
          rw [e1, Option.some.inj qe]
          rfl
  · exact hf.elim
end
end Pl

set_option maxHeartbeats 4000000
namespace Pl
open PySem L2
/-- a method by values: the receiver's reading and the arguments' stand apart -/
def MRs (K : Kw) (g : U → List U → Hm → QU → Prop) : V → List V → Hp → VK → Prop := fun x xs H Q => ∃ a us M Qu, Sim K H M ∧ Rel K H x a ∧ RelL K H xs us ∧ g a us M Qu ∧ Cont K H M Qu Q
def SlS (K : Kw) : V → Option Int → Option Int → Hp → VK → Prop := fun x lo hi H Q => ∃ a M Qu, Sim K H M ∧ Rel K H x a ∧ sliceW a lo hi M Qu ∧ Cont K H M Qu Q
section
variable {X : Cx}
theorem cut_rel {K : Kw} {H : Hp} {vs : List V} {us : List U} (r : RelL K H vs us) (lo hi : Option Int) : RelL K H (cutV vs lo hi) (cutU us lo hi) := by
  unfold cutV cutU
  rw [r.length]
  exact (r.drop _).take _
theorem cut_whole {us : List U} {lo hi : Option Int} (h : HT.sIx us.length 0 lo = 0 ∧ HT.sIx us.length us.length hi = us.length) : cutU us lo hi = us := by
  unfold cutU
  rw [h.1, h.2]
  simp
theorem sl_S : SlR X (SlS (kwX X)) := by
  intro pins s σ H x v vl vu lo hi sl Q I rx hs pl pu h
  obtain ⟨a, M, Qu, S, ra, hf, c⟩ := h
  unfold sliceW at hf
  split at hf
  · rename_i l
    cases ra with
    | tup t r =>
      refine sl_tupA pins s σ H _ v vl vu lo hi sl Q I rx hs pl pu ⟨_, _, rfl, t.sq, fun hw => ?_, fun _ p hp => c.tup S (cut_rel r lo hi) hf hp⟩
      rw [r.length] at hw
      rw [cut_whole hw] at hf
      exact c.at_ S (.tup t r) hf
  · obtain ⟨us, h1, q⟩ := hf
    obtain ⟨vs, e, r⟩ := S _ _ h1
    cases ra
    exact sl_list pins s σ H _ v vl vu lo hi sl Q I rx hs pl pu ⟨_, _, rfl, .inl (.inl e), fun p hp => c.lst S (cut_rel r lo hi) q hp⟩
  · exact hf.elim
/-- o[i] = v -/
def SetS (K : Kw) : TSet := fun o i v H Q => ∃ a b u M Qu, Sim K H M ∧ Rel K H o a ∧ Rel K H i b ∧ Rel K H v u ∧ setW a b u M Qu ∧ ∀ H' M', Stp H M H' M' → Sim K H' M' → Qu M' → Q H'
theorem set_S (hu : X.A.units + 66 < cLine) : PSet X (SetS (kwX X)) := by
  intro pins s σ H o i v ov iv u Q I ro ri rv h
  obtain ⟨a, b, u', M, Qu, S, ra, rb, ru, hf, c⟩ := h
  unfold setW at hf
  split at hf
  · rcases hf with ⟨us, j, k, h1, rfl, e, q⟩ | ⟨t, ks, h1, h2, h3, q⟩ | ⟨ks, h1, h2, h3, q⟩
    · obtain ⟨vs, e1, r⟩ := S _ _ h1
      cases ra
      cases rb
      refine set_list pins s σ H _ _ v ov iv u Q I ro ri rv ⟨_, vs, j, k, rfl, rfl, e1, by rw [r.length]; exact e, ?_⟩
      exact c _ _ (Stp.mut h1) (S.mut (m := .lst (us.set k u')) h1 rfl ⟨_, upd_same, (r.set k ru).stp S (Stp.mut (m := .lst (us.set k u')) h1)⟩) q
    · obtain ⟨H', g, st, S'⟩ := dput_of S h1 h2 rb ru h3
      cases ra
      obtain rfl : ov = Value.ref _ := ro
      exact d_setItem (by omega) I g ri rv fun s' I' => ⟨H', I', c _ _ st S' q⟩
    · cases ra
      obtain rfl : ov = Value.ref _ := ro
      exact n_setItem (by omega) I S h1 h3 h2 rb ri rv ru fun H' s' I' st S' => ⟨H', I', c _ _ st S' q⟩
  · exact hf.elim
/-! ### built-ins -/
theorem vals2R {K : Kw} {H : Hp} {xs : List V} {u w : U} (r : RelL K H xs [u, w]) : ∃ v y, xs = [v, y] ∧ Rel K H v u ∧ Rel K H y w := by
  cases r with
  | cons a b => obtain ⟨y, rfl, q⟩ := vals1R b; exact ⟨_, y, rfl, a, q⟩
theorem relL_ints {K : Kw} {H : Hp} : ∀ {ns : List Int} {vs : List V}, RelL K H vs (ns.map U.int) → vs = ns.map V.int
  | [], vs, h => by cases h; rfl
  | n :: ns, vs, h => by
    cases h with
    | cons a b => cases a; rw [relL_ints b]; rfl
theorem relL_bls {K : Kw} {H : Hp} : ∀ {ns : List Bool} {vs : List V}, RelL K H vs (ns.map U.bl) → vs = ns.map V.bl
  | [], vs, h => by cases h; rfl
  | n :: ns, vs, h => by
    cases h with
    | cons a b => cases a; rw [relL_bls b]; rfl
def bfnV : Bfn → Option Value
  | .len => some (.builtin "len")
  | .list => some (.type "list")
  | .tuple => some (.type "tuple")
  | .int => some (.type "int")
  | .abs => some (.builtin "abs")
  | .max => some (.builtin "max")
  | .min => some (.builtin "min")
  | .sorted => some (.builtin "sorted")
  | .sum => some (.builtin "sum")
  | .all => some (.builtin "all")
  | .any => some (.builtin "any")
  | .tupd => some (.type "tuple")
  | .dict => some (.type "dict")
  | _ => none
theorem cr_len : CallR X (.builtin "len") (CRs (kwX X) (bltW .len)) := by
  intro pins s σ H xs us Q I r h
  obtain ⟨as, M, Qu, S, ra, hf, c⟩ := h
  unfold bltW at hf
  split at hf <;> first | (rename_i e; cases e; done) | skip
  · rename_i e
    obtain ⟨v, rfl, rv⟩ := vals1R ra
    cases rv with
    | tup t rl =>
      refine call_len_seq pins s σ H _ us Q I r ⟨_, _, rfl, .inr t.sq, ?_⟩
      rw [rl.length]
      exact c.at_ S (.int _) hf
  · obtain ⟨v, rfl, rv⟩ := vals1R ra
    cases rv
    exact call_len_str pins s σ H _ us Q I r ⟨_, rfl, le_line hf.1, c.at_ S (.int _) hf.2⟩
  · obtain ⟨v, rfl, rv⟩ := vals1R ra
    cases rv
    rcases hf with ⟨ws, h1, q⟩ | ⟨ks, h1, q⟩
    · obtain ⟨vs, e, rl⟩ := S _ _ h1
      refine call_len_seq pins s σ H _ us Q I r ⟨_, _, rfl, .inl (.inl (.inl e)), ?_⟩
      rw [rl.length]
      exact c.at_ S (.int _) q
    · obtain ⟨kvs, e, rl⟩ := S _ _ h1
      refine call_lenD pins s σ H _ us Q I r ⟨_, _, rfl, e, ?_⟩
      rw [RelK.len rl]
      exact c.at_ S (.int _) q
  · obtain ⟨v, rfl, rv⟩ := vals1R ra
    cases rv with
    | dtp t rl =>
      refine call_len_seq pins s σ H _ us Q I r ⟨_, _, rfl, .inr t.sq, ?_⟩
      rw [rl.length]
      exact c.at_ S (.int _) hf
  · exact hf.elim
theorem cr_listS (hc : X.calm = true) : CallR X (.type "list") (CRs (kwX X) (bltW .list)) := by
  intro pins s σ H xs us Q I r h
  obtain ⟨as, M, Qu, S, ra, hf, c⟩ := h
  unfold bltW at hf
  split at hf <;> first | (rename_i e; cases e; done) | skip
  · obtain ⟨v, rfl, rv⟩ := vals1R ra
    cases rv with
    | tup t rl => exact call_list_of pins s σ H _ us Q I r ⟨_, _, rfl, .inr t.sq, fun l hl => c.lst S rl hf hl⟩
  · obtain ⟨v, rfl, rv⟩ := vals1R ra
    cases rv
    rcases hf with ⟨ws, h1, q⟩ | ⟨ks, h1, q⟩ | ⟨ks, h1, q⟩
    · obtain ⟨vs, e, rl⟩ := S _ _ h1
      exact call_list_of pins s σ H _ us Q I r ⟨_, _, rfl, .inl (.inl (.inl e)), fun l hl => c.lst S rl q hl⟩
    · obtain ⟨kvs, e, rl⟩ := S _ _ h1
      exact call_list_dK hc pins s σ H _ us Q I r ⟨_, _, rfl, e, fun l hl => c.lst S (relK_keys rl) q hl⟩
    · obtain ⟨u, rfl, ru⟩ := vals1 r
      obtain rfl : u = Value.ref _ := ru
      exact n_list hc I S h1 fun vs n rl hn => c.lst S rl q hn
  · obtain ⟨v, rfl, rv⟩ := vals1R ra
    cases rv with
    | dtp t rl => exact call_list_of pins s σ H _ us Q I r ⟨_, _, rfl, .inr t.sq, fun l hl => c.lst S rl hf hl⟩
  · exact hf.elim
theorem cr_tupleS : CallR X (.type "tuple") (CRs (kwX X) (bltW .tuple)) := by
  intro pins s σ H xs us Q I r h
  obtain ⟨as, M, Qu, S, ra, hf, c⟩ := h
  unfold bltW at hf
  split at hf <;> first | (rename_i e; cases e; done) | skip
  · obtain ⟨v, rfl, rv⟩ := vals1R ra
    cases rv with
    | tup t rl => exact call_tuple_of pins s σ H _ us Q I r ⟨_, _, rfl, .inr ⟨t.sq, c.at_ S (.tup t rl) hf⟩⟩
  · obtain ⟨v, rfl, rv⟩ := vals1R ra
    cases rv with
    | dtp t rl => exact call_tuple_of pins s σ H _ us Q I r ⟨_, _, rfl, .inr ⟨t.sq, c.at_ S (.dtp t rl) hf⟩⟩
  · obtain ⟨v, rfl, rv⟩ := vals1R ra
    cases rv
    obtain ⟨ws, h1, q⟩ := hf
    obtain ⟨vs, e, rl⟩ := S _ _ h1
    exact call_tuple_of pins s σ H _ us Q I r ⟨_, _, rfl, .inl ⟨.inl (.inl e), fun l hl => c.tup S rl q hl⟩⟩
  · exact hf.elim
theorem cr_tupdS : CallR X (.type "tuple") (CRs (kwX X) (bltW .tupd)) := by
  intro pins s σ H xs us Q I r h
  obtain ⟨as, M, Qu, S, ra, hf, c⟩ := h
  unfold bltW at hf
  split at hf <;> first | (rename_i e; cases e; done) | skip
  · obtain ⟨v, rfl, rv⟩ := vals1R ra
    cases rv
    obtain ⟨ws, h1, q⟩ := hf
    obtain ⟨vs, e, rl⟩ := S _ _ h1
    obtain ⟨u, rfl, rx⟩ := vals1 r
    cases rx
    obtain ⟨its, r', pl, hz⟩ := I.list (xs := vs) (.inl (.inl e))
    have hlen := r'.length
    refine call_tuple_list pl.isList (fun h' kp => ?_) (by simp only [List.size_toArray] <;> omega)
    have I1 : L2.Inv X pins σ H { s with heap := h' } := I.kept (t' := s.toks) kp
    have hf0 := I1.hok.fresh (Nat.le_refl h'.objs.size)
    have I2 : L2.Inv X pins σ (upd H h'.objs.size (.frz { cls := .type "tuple", data := .seq its.toArray } (.tup vs))) { s with heap := h'.push { cls := .type "tuple", data := .seq its.toArray } } :=
      I1.laid (t' := s.toks) (fun b o e => Heap.get?_push_of_some _ e) (Nat.le_refl _) (show ObjOk X.prog X.w _ _ _ (.frz _ (.tup vs)) from ⟨Heap.get?_push_size _ rfl, hz, its, r', PyProof.Rows.IsTup.new _ _⟩)
    refine ⟨.ref h'.objs.size, _, I2, rfl, ?_⟩
    have st : Stp H M (upd H h'.objs.size (.frz { cls := .type "tuple", data := .seq its.toArray } (.tup vs))) M := Stp.newT S hf0
    have S2 : Sim (kwX X) (upd H h'.objs.size (.frz { cls := .type "tuple", data := .seq its.toArray } (.tup vs))) M := S.to st fun a o e => .inl ⟨e, upd_ne fun z => by
      have q := S.fr hf0
      rw [z, q] at e
      cases e⟩
    exact c _ _ (.dtp ws) M st S2 (.dtp ⟨_, upd_same, rfl, rfl⟩ (rl.stp S st)) q
  · exact hf.elim
theorem cr_intS : CallR X (.type "int") (CRs (kwX X) (bltW .int)) := by
  intro pins s σ H xs us Q I r h
  obtain ⟨as, M, Qu, S, ra, hf, c⟩ := h
  unfold bltW at hf
  split at hf <;> first | (rename_i e; cases e; done) | skip
  · obtain ⟨v, rfl, rv⟩ := vals1R ra
    cases rv
    exact call_int1 pins s σ H _ us Q I r (.inl ⟨_, rfl, c.at_ S (.int _) hf⟩)
  · obtain ⟨v, rfl, rv⟩ := vals1R ra
    cases rv
    exact call_int1 pins s σ H _ us Q I r (.inr ⟨_, rfl, c.at_ S (.int _) hf⟩)
  · exact hf.elim
theorem cr_absS : CallR X (.builtin "abs") (CRs (kwX X) (bltW .abs)) := by
  intro pins s σ H xs us Q I r h
  obtain ⟨as, M, Qu, S, ra, hf, c⟩ := h
  unfold bltW at hf
  split at hf <;> first | (rename_i e; cases e; done) | skip
  · obtain ⟨v, rfl, rv⟩ := vals1R ra
    cases rv
    exact call_abs pins s σ H _ us Q I r ⟨_, rfl, c.at_ S (.int _) hf⟩
  · exact hf.elim
theorem cr_maxS (hc : X.calm = true) : CallR X (.builtin "max") (CRs (kwX X) (bltW .max)) := by
  intro pins s σ H xs us Q I r h
  obtain ⟨as, M, Qu, S, ra, hf, c⟩ := h
  unfold bltW at hf
  split at hf <;> first | (rename_i e; cases e; done) | skip
  · obtain ⟨v, y, rfl, rv, ry⟩ := vals2R ra
    cases rv; cases ry
    exact call_max2 hc pins s σ H _ us Q I r ⟨_, _, rfl, c.at_ S (.int _) hf⟩
  · obtain ⟨v, rfl, rv⟩ := vals1R ra
    cases rv
    obtain ⟨ns, h1, hn, q⟩ := hf
    obtain ⟨vs, e, rl⟩ := S _ _ h1
    obtain rfl := relL_ints rl
    exact cr_max hc pins s σ H _ us Q I r ⟨_, ns, rfl, .inl (.inl e), hn, fun m h1 h2 => c.at_ S (.int _) (q m h1 h2)⟩
  · exact hf.elim
theorem cr_minS (hc : X.calm = true) : CallR X (.builtin "min") (CRs (kwX X) (bltW .min)) := by
  intro pins s σ H xs us Q I r h
  obtain ⟨as, M, Qu, S, ra, hf, c⟩ := h
  unfold bltW at hf
  split at hf <;> first | (rename_i e; cases e; done) | skip
  · obtain ⟨v, y, rfl, rv, ry⟩ := vals2R ra
    cases rv; cases ry
    exact call_min2 hc pins s σ H _ us Q I r ⟨_, _, rfl, c.at_ S (.int _) hf⟩
  · obtain ⟨v, rfl, rv⟩ := vals1R ra
    cases rv
    obtain ⟨ns, h1, hn, q⟩ := hf
    obtain ⟨vs, e, rl⟩ := S _ _ h1
    obtain rfl := relL_ints rl
    exact cr_min hc pins s σ H _ us Q I r ⟨_, ns, rfl, .inl (.inl e), hn, fun m h1 h2 => c.at_ S (.int _) (q m h1 h2)⟩
  · exact hf.elim
theorem cr_sumS (hc : X.calm = true) : CallR X (.builtin "sum") (CRs (kwX X) (bltW .sum)) := by
  intro pins s σ H xs us Q I r h
  obtain ⟨as, M, Qu, S, ra, hf, c⟩ := h
  unfold bltW at hf
  split at hf <;> first | (rename_i e; cases e; done) | skip
  · obtain ⟨v, rfl, rv⟩ := vals1R ra
    cases rv
    obtain ⟨ns, h1, q⟩ := hf
    obtain ⟨vs, e, rl⟩ := S _ _ h1
    obtain rfl := relL_ints rl
    exact cr_sum hc pins s σ H _ us Q I r ⟨_, ns, rfl, .inl (.inl e), c.at_ S (.int _) q⟩
  · exact hf.elim
theorem cr_allS (hc : X.calm = true) : CallR X (.builtin "all") (CRs (kwX X) (bltW .all)) := by
  intro pins s σ H xs us Q I r h
  obtain ⟨as, M, Qu, S, ra, hf, c⟩ := h
  unfold bltW at hf
  split at hf <;> first | (rename_i e; cases e; done) | skip
  · obtain ⟨v, rfl, rv⟩ := vals1R ra
    cases rv
    obtain ⟨ns, h1, q⟩ := hf
    obtain ⟨vs, e, rl⟩ := S _ _ h1
    obtain rfl := relL_bls rl
    exact cr_all hc pins s σ H _ us Q I r ⟨_, ns, rfl, .inl (.inl e), c.at_ S (.bl _) q⟩
  · exact hf.elim
theorem cr_anyS (hc : X.calm = true) : CallR X (.builtin "any") (CRs (kwX X) (bltW .any)) := by
  intro pins s σ H xs us Q I r h
  obtain ⟨as, M, Qu, S, ra, hf, c⟩ := h
  unfold bltW at hf
  split at hf <;> first | (rename_i e; cases e; done) | skip
  · obtain ⟨v, rfl, rv⟩ := vals1R ra
    cases rv
    obtain ⟨ns, h1, q⟩ := hf
    obtain ⟨vs, e, rl⟩ := S _ _ h1
    obtain rfl := relL_bls rl
    exact cr_any hc pins s σ H _ us Q I r ⟨_, ns, rfl, .inl (.inl e), c.at_ S (.bl _) q⟩
  · exact hf.elim
theorem cr_dictS : CallR X (.type "dict") (CRs (kwX X) (bltW .dict)) := by
  intro pins s σ H xs us Q I r h
  obtain ⟨as, M, Qu, S, ra, hf, c⟩ := h
  unfold bltW at hf
  split at hf <;> first | (rename_i e; cases e; done) | skip
  · obtain ⟨v, rfl, rv⟩ := vals1R ra
    cases rv
    obtain ⟨ks, h1, q⟩ := hf
    obtain ⟨kvs, e, rl⟩ := S _ _ h1
    refine call_dictD pins s σ H _ us Q I r ⟨_, kvs, rfl, .inl e, fun p hp => ?_⟩
    have st : Stp H M (upd H p (.dK kvs)) (um M p (.dct false false ks)) := Stp.new S hp
    exact c _ _ (.ref p) _ st (S.new (m := .dct false false ks) hp ⟨kvs, upd_same, Paired.mapR rl fun p q x => ⟨x.1, x.2.stp S st⟩⟩) (.ref p) (q p (S.fr hp))
  · exact hf.elim
theorem cr_S (hc : X.calm = true) (hu : X.A.units + 66 < cLine) {f : Bfn} {v : Value} (h : bfnV f = some v) : CallR X v (CRs (kwX X) (bltW f)) := by
  cases f <;> first | (cases h; done) | skip
  · cases h; exact cr_len
  · cases h; exact cr_listS hc
  · cases h; exact cr_tupleS
  · cases h; exact cr_intS
  · cases h; exact cr_absS
  · cases h; exact cr_maxS hc
  · cases h; exact cr_minS hc
  · cases h; exact cr_sortedS hc hu
  · cases h; exact cr_sumS hc
  · cases h; exact cr_allS hc
  · cases h; exact cr_anyS hc
  · cases h; exact cr_dictS
  · cases h; exact cr_tupdS
/-! ### methods -/
/-- the receiver's type, where the method is called -/
def mfnT : Mfn → Option (String × Str × String)
  | .append => some ("list", "append", "list.append")
  | .extend => some ("list", "extend", "list.extend")
  | .pop => some ("list", "pop", "list.pop")
  | .popAt => some ("list", "pop", "list.pop")
  | .index => some ("list", "index", "list.index")
  | .split => some ("str", "split", "str.split")
  | .pop2 => some ("dict", "pop", "dict.pop")
  | _ => none
theorem mt_appendS : MtR X "list.append" (MRs (kwX X) (mthW .append)) := by
  intro pins s σ H x xs v us Q I r rs h
  obtain ⟨a, bs, M, Qu, S, ra, rb, hf, c⟩ := h
  unfold mthW at hf
  split at hf <;> first | (rename_i e; cases e; done) | skip
  · obtain ⟨ws, h1, h2, q⟩ := hf
    obtain ⟨y, rfl, ry⟩ := vals1R rb
    obtain ⟨vs, e, rl⟩ := S _ _ h1
    cases ra
    exact mt_append pins s σ H _ _ v us Q I r rs ⟨_, vs, y, rfl, rfl, e, by rw [rl.length]; exact lt_line h2, c.mutL S h1 (rl.append (.cons ry .nil)) .non q⟩
  · exact hf.elim
/-- a list extended by a tuple that has no dict -/
theorem mt_extT {l b : Addr} {xs zs : List V} {ob : Obj} {pins : List (Addr × Obj)} {s : Shared} {σ : L2.St} {H : Hp} {Q : VK} (I : L2.Inv X pins σ H s) (hH : H l = some (.lst xs)) (hB : H b = some (.frz ob (.tup zs))) (hd : ob.dict = none) (hs : ob.slots = #[]) (hz : xs.length + zs.length ≤ sizeLine) (q : Q .non (upd H l (.lst (xs ++ zs)))) :
    wpAny (model X.prog X.w) X.A (call (.builtin "list.extend") [.ref l, .ref b]) (EP X pins σ Q) X.xe s := by
  obtain ⟨z, its, n, r, hl, e⟩ := I.lstM hH
  obtain ⟨hg, hz2, its2, rv, ho⟩ := (show ObjOk X.prog X.w H s.heap b (.frz ob (.tup zs)) from I.hok b _ hB)
  obtain ⟨o2, h2, h3, n2, h4⟩ := ho
  obtain rfl : o2 = ob := by rw [hg] at h2; injection h2 with h2; exact h2.symm
  have e2 : s.heap.get? b = some { cls := .type "tuple", data := .seq its2.toArray n2 } := by
    rw [hg]
    obtain ⟨c1, c2, c3, c4⟩ := o2
    simp only at h3 hd hs h4
    subst h3 hd hs h4
    rfl
  have hl2 : its2.length = zs.length := rv.length.symm
  have hl1 : its.length = xs.length := hl.symm
  have hsz : its.toArray.size + its2.toArray.size ≤ sizeLine := by
    rw [List.size_toArray, List.size_toArray]; omega
  have hlong : ¬(!its.toArray.isEmpty && Builtin.List.listTooLong (its.toArray.size + its2.toArray.size)) = true := by
    rw [notLongL hsz, Bool.and_false]; decide
  exact call_meets PySem.F.slot_list_extend ⟨_, e, rfl⟩ PySem.F.entry_list_extend (PySem.F.args_list_extend_2 (.ref l) (.ref b))
    (AutoSeq1.list_extend_list_tuple_0 l its.toArray n b its2.toArray n2 hlong (by rw [List.size_toArray]; omega) (by omega))
    ⟨e, e2, .non, _, I.lset hH e (by rw [List.append_toArray]) (r.append rv) (by rw [List.length_append]; exact hz), rfl, q⟩
theorem mt_extendS : MtR X "list.extend" (MRs (kwX X) (mthW .extend)) := by
  intro pins s σ H x xs v us Q I r rs h
  obtain ⟨a, bs, M, Qu, S, ra, rb, hf, c⟩ := h
  unfold mthW at hf
  split at hf <;> first | (rename_i e; cases e; done) | skip
  · obtain ⟨ws, zs, h1, h2, h3, q⟩ := hf
    obtain ⟨y, rfl, ry⟩ := vals1R rb
    obtain ⟨vs, e, rl⟩ := S _ _ h1
    obtain ⟨ys, e2, rl2⟩ := S _ _ h2
    cases ra; cases ry
    exact mt_extend pins s σ H _ _ v us Q I r rs ⟨_, _, vs, ys, rfl, rfl, e, e2, by rw [rl.length, rl2.length]; exact le_line h3, c.mutL S h1 (rl.append rl2) .non q⟩
  · obtain ⟨ws, h1, h3, q⟩ := hf
    obtain ⟨y, rfl, ry⟩ := vals1R rb
    obtain ⟨vs, e, rl⟩ := S _ _ h1
    cases ra
    cases ry with
    | dtp td rl2 =>
      obtain ⟨ob, e2, hd, hs⟩ := td
      obtain rfl : v = _ := r
      obtain ⟨u, rfl, ru⟩ := vals1 rs
      cases ru
      exact mt_extT I e e2 hd hs (by rw [rl.length, rl2.length]; exact le_line h3) (c.mutL S h1 (rl.append rl2) .non q)
  · exact hf.elim
theorem mt_popS : MtR X "list.pop" (MRs (kwX X) (mthW .pop)) := by
  intro pins s σ H x xs v us Q I r rs h
  obtain ⟨a, bs, M, Qu, S, ra, rb, hf, c⟩ := h
  unfold mthW at hf
  split at hf <;> first | (rename_i e; cases e; done) | skip
  · obtain ⟨ws, y, h1, h2, q⟩ := hf
    cases rb
    obtain ⟨vs, e, rl⟩ := S _ _ h1
    obtain ⟨z, e2, rz⟩ := rl.get h2
    cases ra
    exact mt_pop pins s σ H _ _ v us Q I r rs ⟨_, vs, z, rfl, rfl, e, by rw [rl.length]; exact e2, c.mutL S h1 rl.dropLast rz q⟩
  · exact hf.elim
theorem mt_popAtS : MtR X "list.pop" (MRs (kwX X) (mthW .popAt)) := by
  intro pins s σ H x xs v us Q I r rs h
  obtain ⟨a, bs, M, Qu, S, ra, rb, hf, c⟩ := h
  unfold mthW at hf
  split at hf <;> first | (rename_i e; cases e; done) | skip
  · obtain ⟨ws, k, y, h1, h2, h3, h4, q⟩ := hf
    obtain ⟨y2, rfl, ry⟩ := vals1R rb
    obtain ⟨vs, e, rl⟩ := S _ _ h1
    obtain ⟨z, e2, rz⟩ := rl.get h4
    obtain ⟨e3, e4, e5, e6⟩ := ixN_seq h3
    have hl : LIM = 100000 := rfl
    cases ra; cases ry
    exact mt_popAt pins s σ H _ _ v us Q I r rs ⟨_, vs, _, k, z, rfl, rfl, e, by omega, by omega, by rw [rl.length]; exact e3, e2, c.mutL S h1 (rl.eraseIdx k) rz q⟩
  · exact hf.elim
theorem mt_indexS (hu : X.A.units + 66 < cLine) : MtR X "list.index" (MRs (kwX X) (mthW .index)) := by
  intro pins s σ H x xs v us Q I r rs h
  obtain ⟨a, bs, M, Qu, S, ra, rb, hf, c⟩ := h
  unfold mthW at hf
  split at hf <;> first | (rename_i e; cases e; done) | skip
  · rename_i y _
    obtain ⟨ws, j, h1, h2, h3, h4, h5, q⟩ := hf
    obtain ⟨y2, rfl, ry⟩ := vals1R rb
    cases ra
    refine mt_indexD (by omega) pins s σ H _ _ v us Q I r rs ⟨_, y2, pd y, pdL ws, j, pd y, rfl, rfl, okL_dp S h1 h3, ok_dp 60 y y2 h2 ry, okL_shaped h3, ok_shaped h2 (by decide), ?_, ?_, ?_, c.at_ S (.int _) q⟩
    · rw [pdL_map, List.getElem?_map, h4]
      rfl
    · rw [ok_eqv 60 y 60 y h2 h2]
      exact decide_eq_true rfl
    · intro m z' hm hz
      rw [pdL_map, List.getElem?_map] at hz
      cases hw : ws[m]? with
      | none => rw [hw] at hz; cases hz
      | some w =>
        rw [hw] at hz
        cases hz
        rw [ok_eqv 59 w 60 y (okL_all h3 w (List.mem_of_getElem? hw)) h2]
        exact decide_eq_false fun e => h5 m hm (by rw [hw, e])
  · exact hf.elim
theorem RelT.dropk {K : Kw} {H : Hp} {kvs : List (List Key × V)} {ks : List (U × U)} (h : RelT K H kvs ks) (key : List Key) : RelT K H (dropK kvs key) (ddrop ks (.tup (key.map keyU))) := by
  induction h with
  | nil => exact .nil
  | @cons p q kvs ks a _ ih =>
    unfold dropK ddrop at ih ⊢
    rw [List.filter_cons, List.filter_cons]
    by_cases e : p.1 = key
    · rw [if_neg (by simpa using e), if_neg (by rw [a.1, e]; simp)]
      exact ih
    · rw [if_pos (by simpa using e), if_pos (by
        rw [a.1, Bool.not_eq_true', decide_eq_false_iff_not]
        intro h
        injection h with h
        exact e (keysU_inj h))]
      exact .cons a ih
theorem mt_popT1 {a b : Addr} {kvs : List (List Key × V)} {k : List Key} {w0 : V} {pins : List (Addr × Obj)} {s : Shared} {σ : L2.St} {H : Hp} {Q : VK} (hu : X.A.units + 1 < cLine) (I : L2.Inv X pins σ H s) (ha : H a = some (.dT kvs)) (hb : H b = some (.tup (k.map kV))) (hv : valV kvs k = some w0) (q : Q w0 (upd H a (.dT (dropK kvs k)))) :
    wpAny (model X.prog X.w) X.A (call (.builtin "dict.pop") [.ref a, .ref b]) (EP X pins σ Q) X.xe s := by
  obtain ⟨z, hd, xs', rel, dd⟩ := dt_of I.hok ha
  have hz : xs'.length ≤ sizeLine := by rw [← Paired.length rel]; exact z
  refine call_meetsIn PySem.F.slot_dict_pop dd.typeIs PySem.F.entry_dict_pop (PySem.F.args_dict_pop_2 (.ref a) (.ref b)) (meetsH_dict_pop _ a b hd [] (.inl rfl)) ⟨tupleKind_room_in1 hu, k, xs', key_of I.hok hb, dd, hz, fun p hp h' dd' hs => ?_, fun hn => ?_⟩
  · have r := KT.val rel k
    rw [hp, hv] at r
    obtain ⟨o, es, ep, hq, h2, h3, h4, h5, h6⟩ := dd'
    have I2 : L2.Inv X pins σ (upd H a (.dT (dropK kvs k))) { heap := h', gens := s.gens, drawn := s.drawn, toks := s.toks + (tupleKind (mixKind X.prog X.w)).draws k, os := s.os } := d_write (ob := .dT (dropK kvs k)) (t' := s.toks + (tupleKind (mixKind X.prog X.w)).draws k) I (by rw [ha]; trivial) hs ⟨o, hq⟩ ⟨Nat.le_trans (dropK_le kvs k) z, hd, DT.dropH xs' k, (DX.KT_drop k rel).keeps (fun b ys ec => by rw [upd_ne (ne_of ec ha fun z => nomatch z)]; exact ec), o, es, ep, hq, h2, h3, h4, h6⟩
    exact ⟨w0, _, I2, r, q⟩
  · have r := KT.val rel k
    rw [hn, hv] at r
    exact r.elim
theorem mt_pop2S (hu : X.A.units + 66 < cLine) : MtR X "dict.pop" (MRs (kwX X) (mthW .pop2)) := by
  intro pins s σ H x xs v us Q I r rs h
  obtain ⟨a, bs, M, Qu, S, ra, rb, hf, c⟩ := h
  unfold mthW at hf
  split at hf <;> first | (rename_i e; cases e; done) | skip
  · obtain ⟨ks, w0, h1, hk, hw, q⟩ := hf
    obtain ⟨y, rfl, ry⟩ := vals1R rb
    obtain ⟨kvs, e, rk⟩ := S _ _ h1
    have e : H _ = some (.dT kvs) := e
    obtain ⟨b, key, e1, e2, e3⟩ := isKeyT_of hk ry
    subst e2
    cases ra
    rw [e1] at q hw
    obtain rfl : v = _ := r
    obtain ⟨u, rfl, ru⟩ := vals1 rs
    cases ru
    rcases rk.find key with ⟨g1, g2⟩ | ⟨w', u', g1, g2, g3⟩
    · rw [hw] at g2; cases g2
    · rw [hw] at g2
      cases g2
      have st : Stp H M (upd H _ (.dT (dropK kvs key))) (um M _ (.dct false true (ddrop ks (.tup (key.map keyU))))) := Stp.mut h1
      exact mt_popT1 (by omega) I e e3 g1 (c _ _ w0 _ st (S.mut (m := .dct false true (ddrop ks (.tup (key.map keyU)))) h1 rfl ⟨_, upd_same, RelT.dropk (Paired.mapR rk fun p q x => ⟨x.1, x.2.stp S st⟩) key⟩) (g3.stp S st) q)
  · obtain ⟨ks, h1, hk, q⟩ := hf
    obtain ⟨y, d, rfl, ry, rd⟩ := vals2R rb
    obtain ⟨kvs, e, rk⟩ := S _ _ h1
    have e : H _ = some (.dT kvs) := e
    obtain ⟨b, key, e1, e2, e3⟩ := isKeyT_of hk ry
    subst e2
    cases ra
    rw [e1] at q
    refine L2.DX.mt_popT (by omega) pins s σ H _ _ v us Q I r rs ⟨_, kvs, key, b, d, rfl, rfl, e, e3, fun w hw => ?_, fun hw => ?_⟩
    · rcases rk.find key with ⟨g1, g2⟩ | ⟨w', u', g1, g2, g3⟩
      · rw [hw] at g1; cases g1
      · rw [hw] at g1
        cases g1
        rw [g2] at q
        have st : Stp H M (upd H _ (.dT (dropK kvs key))) (um M _ (.dct false true (ddrop ks (.tup (key.map keyU))))) := Stp.mut h1
        exact c _ _ u' _ st (S.mut (m := .dct false true (ddrop ks (.tup (key.map keyU)))) h1 rfl ⟨_, upd_same, RelT.dropk (Paired.mapR rk fun p q x => ⟨x.1, x.2.stp S st⟩) key⟩) (g3.stp S st) q
    · rcases rk.find key with ⟨g1, g2⟩ | ⟨w', u', g1, g2, g3⟩
      · rw [g2] at q
        exact c.at_ S rd q
      · rw [hw] at g1; cases g1
  · exact hf.elim
theorem mt_splitS : MtR X "str.split" (MRs (kwX X) (mthW .split)) := by
  intro pins s σ H x xs v us Q I r rs h
  obtain ⟨a, bs, M, Qu, S, ra, rb, hf, c⟩ := h
  unfold mthW at hf
  split at hf <;> first | (rename_i e; cases e; done) | skip
  · obtain ⟨h1, h2, q⟩ := hf
    obtain ⟨y, rfl, ry⟩ := vals1R rb
    cases ra; cases ry
    exact mt_split pins s σ H _ _ v us Q I r rs ⟨_, _, rfl, rfl, h1, le_line h2, fun p hp => c.lst S (RelL.strs _) q hp⟩
  · exact hf.elim
/-! ### isinstance -/
def IsS (K : Kw) (t : String) : V → Hp → (Bool → Hp → Prop) → Prop := fun x H Q => ∃ a M Qu, Sim K H M ∧ Rel K H x a ∧ isTyW a t M Qu ∧ ContB K H M Qu Q
def tyOk (t : String) : Bool := t == "tuple" || t == "str" || t == "int" || t == "bool" || t == "list"
theorem isTy_of {K : Kw} {t : String} {x : V} {H : Hp} {Q : Bool → Hp → Prop} (ht : tyOk t = true) (h : IsS K t x H Q) : ∃ ty b, TyX K H x ty ∧ PySem.W.kitOne K ty (.type t) = some b ∧ Q b H := by
  obtain ⟨a, M, Qu, S, r, hf, c⟩ := h
  have ht2 : t = "tuple" ∨ t = "str" ∨ t = "int" ∨ t = "bool" ∨ t = "list" := by
    unfold tyOk at ht
    simp only [Bool.or_eq_true, beq_iff_eq] at ht
    rcases ht with (((h | h) | h) | h) | h
    · exact .inl h
    · exact .inr (.inl h)
    · exact .inr (.inr (.inl h))
    · exact .inr (.inr (.inr (.inl h)))
    · exact .inr (.inr (.inr (.inr h)))
  unfold isTyW at hf
  split at hf
  · cases r
    refine ⟨_, _, .base .non, ?_, c _ _ _ (Stp.refl H M) S hf⟩
    rcases ht2 with rfl | rfl | rfl | rfl | rfl <;> exact kit_ty (by decide +kernel)
  · cases r
    refine ⟨_, _, .base (.bl _), ?_, c _ _ _ (Stp.refl H M) S hf⟩
    rcases ht2 with rfl | rfl | rfl | rfl | rfl <;> exact kit_ty (by decide +kernel)
  · cases r
    refine ⟨_, _, .base (.int _), ?_, c _ _ _ (Stp.refl H M) S hf⟩
    rcases ht2 with rfl | rfl | rfl | rfl | rfl <;> exact kit_ty (by decide +kernel)
  · cases r
    refine ⟨_, _, .base (.str _), ?_, c _ _ _ (Stp.refl H M) S hf⟩
    rcases ht2 with rfl | rfl | rfl | rfl | rfl <;> exact kit_ty (by decide +kernel)
  · cases r with
    | tup t1 r1 =>
      refine ⟨_, _, .base (.tup t1), ?_, c _ _ _ (Stp.refl H M) S hf⟩
      rcases ht2 with rfl | rfl | rfl | rfl | rfl <;> exact kit_ty (by decide +kernel)
  · cases r with
    | dtp t1 r1 =>
      obtain ⟨o1, e1, _⟩ := t1
      refine ⟨_, _, .fTuple e1, ?_, c _ _ _ (Stp.refl H M) S hf⟩
      rcases ht2 with rfl | rfl | rfl | rfl | rfl <;> exact kit_ty (by decide +kernel)
  · obtain ⟨us, h1, q⟩ := hf
    obtain ⟨vs, e, rl⟩ := S _ _ h1
    cases r
    refine ⟨_, _, .base (.lst e), ?_, c _ _ _ (Stp.refl H M) S q⟩
    rcases ht2 with rfl | rfl | rfl | rfl | rfl <;> exact kit_ty (by decide +kernel)
  · exact hf.elim
end
end Pl

set_option maxHeartbeats 4000000
/-! expressions: the text against the small syntax -/
namespace Pl
open PySem L2
def RelS (K : Kw) (H : Hp) (σ : L2.St) (σu : SU) : Prop := σ.length = σu.length ∧ ∀ (i : Nat) (u : U), σu[i]? = some (some u) → ∃ v, σ[i]? = some (some v) ∧ Rel K H v u
theorem RelS.stp {K : Kw} {H H' : Hp} {M M' : Hm} {σ : L2.St} {σu : SU} (S : Sim K H M) (t : Stp H M H' M') (h : RelS K H σ σu) : RelS K H' σ σu :=
  ⟨h.1, fun i u e => let ⟨v, a, b⟩ := h.2 i u e; ⟨v, a, b.stp S t⟩⟩
theorem RelS.set {K : Kw} {H : Hp} {σ : L2.St} {σu : SU} {v : V} {u : U} (h : RelS K H σ σu) (r : Rel K H v u) (i : Nat) : RelS K H (σ.set i (some v)) (σu.set i (some u)) :=
  ⟨by rw [List.length_set, List.length_set, h.1], fun j w e => by
    by_cases hj : i = j
    · subst hj
      by_cases hl : i < σu.length
      · rw [List.getElem?_set_self hl] at e
        cases e
        exact ⟨v, List.getElem?_set_self (by rw [h.1]; exact hl), r⟩
      · rw [List.getElem?_eq_none (by rw [List.length_set]; omega)] at e
        cases e
    · rw [List.getElem?_set_ne hj] at e ⊢
      exact h.2 j w e⟩
theorem RelS.wipe {K : Kw} {H : Hp} {σ : L2.St} {σu : SU} (h : RelS K H σ σu) : ∀ vs : List Nat, RelS K H (L2.wipe σ vs) (wipU σu vs)
  | [] => h
  | v :: vs => by
    have ih := RelS.wipe h vs
    unfold L2.wipe wipU
    refine ⟨by rw [List.length_set, List.length_set, ih.1], fun j w e => ?_⟩
    by_cases hj : v = j
    · subst hj
      by_cases hl : v < (wipU σu vs).length
      · rw [List.getElem?_set_self hl] at e
        cases e
      · rw [List.getElem?_eq_none (by rw [List.length_set]; omega)] at e
        cases e
    · rw [List.getElem?_set_ne hj] at e ⊢
      exact ih.2 j w e

def EvE (K : Kw) (t : TE) (f : WE) : Prop := ∀ (σ : L2.St) (H : Hp) (σu : SU) (M : Hm) (Qu : QU) (Q : VK), RelS K H σ σu → Sim K H M → f σu M Qu → Cont K H M Qu Q → t σ H Q
def EvT (K : Kw) (t : TT) (f : WT) : Prop := ∀ (σ : L2.St) (H : Hp) (σu : SU) (M : Hm) (Qu : Bool → Hm → Prop) (Q : Bool → Hp → Prop), RelS K H σ σu → Sim K H M → f σu M Qu → ContB K H M Qu Q → t σ H Q
def EvL (K : Kw) (t : TA) (f : WL) : Prop := ∀ (σ : L2.St) (H : Hp) (σu : SU) (M : Hm) (Qu : List U → Hm → Prop) (Q : List V → Hp → Prop), RelS K H σ σu → Sim K H M → f σu M Qu → ContL K H M Qu Q → t σ H Q
def ContO (K : Kw) (H : Hp) (M : Hm) (Qu : Option Int → Hm → Prop) (Q : Option Int → Hp → Prop) : Prop := ∀ o H' M', Stp H M H' M' → Sim K H' M' → Qu o M' → Q o H'
def EvO (K : Kw) (t : TO) (f : WO) : Prop := ∀ (σ : L2.St) (H : Hp) (σu : SU) (M : Hm) (Qu : Option Int → Hm → Prop) (Q : Option Int → Hp → Prop), RelS K H σ σu → Sim K H M → f σu M Qu → ContO K H M Qu Q → t σ H Q

def SE1 (X : Cx) (f : WE) (x : Expr) : Prop := ∃ t, PE X x t ∧ EvE (kwX X) t f
def ST (X : Cx) (f : WT) (x : Expr) : Prop := ∃ t, PT X x t ∧ EvT (kwX X) t f
def SE (X : Cx) (W : Wp) (x : Expr) : Prop := SE1 X W.e x ∧ ST X W.t x
def SA (X : Cx) (f : WL) (es : List Expr) : Prop := ∃ t, PA X es t ∧ EvL (kwX X) t f
def SO (X : Cx) (f : WO) (e : Option Expr) : Prop := ∃ t, PO X e t ∧ EvO (kwX X) t f

/-- its test is its value's truth -/
def plainT : Expr → Bool
  | .UnaryOp .Not _ _ => false
  | .BoolOp .. => false
  | .IfExp .. => false
  | .Compare .. => false
  | _ => true
section
variable {X : Cx}
theorem plainT_eq {e : Expr} (h : plainT e = true) (whole : Sem Value) : isTrue e X.env whole = (do let v ← whole; standAt e.pos; holding [v] (truthy v)) := by
  cases e with
  | UnaryOp op _ _ => cases op <;> first | (cases h; done) | rfl
  | BoolOp _ _ _ => cases h
  | IfExp _ _ _ _ => cases h
  | Compare _ _ _ _ => cases h
  | _ => rfl
theorem SE.ofE {f : WE} {x : Expr} (hx : plainT x = true) (h : SE1 X f x) : SE X (.ofE f) x := by
  refine ⟨h, ?_⟩
  obtain ⟨t, p, q⟩ := h
  refine ⟨_, pt_truth p (plainT_eq hx), fun σ H σu M Qu Q rs S hf c => ?_⟩
  exact q σ H σu M _ _ rs S hf fun v H' u M' st S' r hq => tru_of ⟨u, M', Qu, S', r, hq, c.tr S st⟩
theorem se_var {i : Nat} {x : Str} {pos : Pos} (hN : X.N[i]? = some x) (hv : Vis X.env.scope x) (hd : (x == ("__debug__" : Str)) = false) (hcd : (x == ("__classdict__" : Str)) = false) :
    SE1 X (fun σ M Q => ∃ u, σ[i]? = some (some u) ∧ Q u M) (.Name x pos) :=
  ⟨tVar i, pe_var hN hv hd hcd, fun σ H σu M Qu Q rs S ⟨u, e, q⟩ c =>
    let ⟨v, e1, r⟩ := rs.2 i u e
    ⟨v, e1, c.at_ S r q⟩⟩
theorem se_int {i : Int} {k : Nat} {pos : Pos} : SE1 X (fun _ M Q => Q (.int i) M) (.Constant (.int i) k pos) := ⟨_, pe_int, fun _ _ _ _ _ _ _ S q c => c.at_ S (.int i) q⟩
theorem se_str {i : Str} {k : Nat} {pos : Pos} : SE1 X (fun _ M Q => Q (.str i) M) (.Constant (.str i) k pos) := ⟨_, pe_str, fun _ _ _ _ _ _ _ S q c => c.at_ S (.str i) q⟩
theorem se_bl {i : Bool} {k : Nat} {pos : Pos} : SE1 X (fun _ M Q => Q (.bl i) M) (.Constant (.bool i) k pos) := ⟨_, pe_bl, fun _ _ _ _ _ _ _ S q c => c.at_ S (.bl i) q⟩
theorem se_non {k : Nat} {pos : Pos} : SE1 X (fun _ M Q => Q .non M) (.Constant .none k pos) := ⟨_, pe_non, fun _ _ _ _ _ _ _ S q c => c.at_ S .non q⟩
theorem sa_nil : SA X (fun _ M Q => Q [] M) [] := ⟨_, pa_nil, fun _ H _ M _ _ _ S q c => c _ _ _ _ (Stp.refl H M) S .nil q⟩
def isStar : Expr → Bool
  | .Starred .. => true
  | _ => false
theorem star_cons {e : Expr} {es : List Expr} {env : Env} (h : isStar e = false) : starEach (e :: es) env = (false, eval e env) :: starEach es env := by
  cases e <;> first | (cases h; done) | rfl
theorem star_plain {env : Env} {pos : Pos} : ∀ {es : List Expr}, es.all (fun e => !isStar e) = true → (backTo pos (starEach es env)).any (·.1) = false
  | [], _ => rfl
  | e :: es, h => by
    rw [List.all_cons, Bool.and_eq_true] at h
    have h1 : isStar e = false := by simpa using h.1
    rw [star_cons h1]
    exact star_plain (es := es) h.2
theorem sa_cons {e : Expr} {es : List Expr} {f : WE} {g : WL} (hs : isStar e = false) (h1 : SE1 X f e) (h2 : SA X g es) : SA X (fun σ M Q => f σ M fun x M1 => g σ M1 fun xs M2 => Q (x :: xs) M2) (e :: es) := by
  obtain ⟨t1, p1, q1⟩ := h1
  obtain ⟨t2, p2, q2⟩ := h2
  refine ⟨_, pa_cons p1 p2 (star_cons hs), fun σ H σu M Qu Q rs S hf c => ?_⟩
  refine q1 σ H σu M _ _ rs S hf fun v H1 u M1 st S1 r hq => ?_
  refine q2 σ H1 σu M1 _ _ (rs.stp S st) S1 hq fun vs H2 us M2 st2 S2 rl hq2 => ?_
  exact c _ _ _ _ (st.trans S st2) S2 (.cons (r.stp S1 st2) rl) hq2
theorem se_tup {es : List Expr} {g : WL} {k : Nat} {pos : Pos} (h : SA X g es) : SE1 X (fun σ M Q => g σ M fun xs M1 => xs.length ≤ LIM ∧ Q (.tup xs) M1) (.Tuple es k pos) := by
  obtain ⟨t, p, q⟩ := h
  refine ⟨_, pe_tup p, fun σ H σu M Qu Q rs S hf c => ?_⟩
  refine q σ H σu M _ _ rs S hf fun vs H1 us M1 st S1 r hq => ?_
  exact ⟨by rw [r.length]; exact le_line hq.1, fun n hn => (c.tr S st).tup S1 r hq.2 hn⟩
/-- a written tuple, of which is known that it has no dict -/
def tTupD (t : TA) : TE := fun σ H Q => t σ H fun xs H1 => xs.length ≤ sizeLine ∧ ∀ p o, H1 p = none → o.dict = none → o.slots = #[] → Q (.ref p) (upd H1 p (.frz o (.tup xs)))
theorem pe_tupD {es : List Expr} {t : TA} {pos : Pos} {x1} (h : PA X es t) : PE X (.Tuple es x1 pos) (tTupD t) := by
  refine ⟨fun pins s σ H Q I hq => ?_⟩
  refine wpAny_Tuple_spliced (thn (h.run pos pins s σ H _ I hq) fun us s1 ⟨xs, H1, I1, r, z, q⟩ => ⟨by rw [← r.length]; exact z, ?_⟩)
  have hf : H1 s1.heap.objs.size = none := I1.hok.fresh (Nat.le_refl _)
  refine ⟨.ref s1.heap.objs.size, upd H1 s1.heap.objs.size (.frz { cls := .type "tuple", data := .seq us.toArray } (.tup xs)), I1.laid (t' := s1.toks) (fun b u e => Heap.get?_push_of_some _ e) (Nat.le_refl _) ?_, rfl, q _ _ hf rfl rfl⟩
  exact ⟨Heap.get?_push_size _ rfl, z, us, r, PyProof.Rows.IsTup.new _ _⟩
theorem se_dtup {es : List Expr} {g : WL} {k : Nat} {pos : Pos} (h : SA X g es) : SE1 X (fun σ M Q => g σ M fun xs M1 => xs.length ≤ LIM ∧ Q (.dtp xs) M1) (.Tuple es k pos) := by
  obtain ⟨t, p, q⟩ := h
  refine ⟨_, pe_tupD p, fun σ H σu M Qu Q rs S hf c => ?_⟩
  refine q σ H σu M _ _ rs S hf fun vs H1 us M1 st S1 r hq => ?_
  refine ⟨by rw [r.length]; exact le_line hq.1, fun n o hn ho ho2 => ?_⟩
  have st2 : Stp H1 M1 (upd H1 n (.frz o (.tup vs))) M1 := Stp.newT S1 hn
  have S2 : Sim (kwX X) (upd H1 n (.frz o (.tup vs))) M1 := S1.to st2 fun a o' e => .inl ⟨e, upd_ne fun z => by
    have q := S1.fr hn
    rw [z, q] at e
    cases e⟩
  exact c _ _ (.dtp us) M1 (st.trans S st2) S2 (.dtp ⟨_, upd_same, ho, ho2⟩ (r.stp S1 st2)) hq.2
theorem se_lst {es : List Expr} {g : WL} {pos : Pos} (h : SA X g es) : SE1 X (fun σ M Q => g σ M fun xs M1 => xs.length ≤ LIM ∧ ∀ p, M1 p = none → Q (.ref p) (um M1 p (.lst xs))) (.List es pos) := by
  obtain ⟨t, p, q⟩ := h
  refine ⟨_, pe_lst p, fun σ H σu M Qu Q rs S hf c => ?_⟩
  refine q σ H σu M _ _ rs S hf fun vs H1 us M1 st S1 r hq => ?_
  exact ⟨by rw [r.length]; exact le_line hq.1, fun n hn => (c.tr S st).lst S1 r hq.2 hn⟩
theorem se_dnew {t : Bool} {pos : Pos} : SE1 X (fun _ M Q => ∀ p, M p = none → Q (.ref p) (um M p (.dct false t []))) (.Dict [] [] pos) := by
  cases t with
  | false =>
    refine ⟨_, pe_dnewK, fun σ H σu M Qu Q rs S hf c p hp => ?_⟩
    exact c _ _ (.ref p) _ (Stp.new S hp) (S.new (m := .dct false false []) hp ⟨[], upd_same, .nil⟩) (.ref p) (hf p (S.fr hp))
  | true =>
    refine ⟨_, pe_dnewT, fun σ H σu M Qu Q rs S hf c p hp => ?_⟩
    exact c _ _ (.ref p) _ (Stp.new S hp) (S.new (m := .dct false true []) hp ⟨[], upd_same, .nil⟩) (.ref p) (hf p (S.fr hp))
theorem se_dnewN {pos : Pos} : SE1 X (fun _ M Q => ∀ p, M p = none → Q (.ref p) (um M p (.dcn []))) (.Dict [] [] pos) := by
  refine ⟨_, pe_dnewN, fun σ H σu M Qu Q rs S hf c p hp hs => ?_⟩
  exact c _ _ (.ref p) _ (Stp.new S hp) (S.new (m := .dcn []) hp ⟨[], upd_same, .nil, hs, Nat.zero_le _⟩) (.ref p) (hf p (S.fr hp))
theorem two {f g : WE} {ta tb : TE} (q1 : EvE (kwX X) ta f) (q2 : EvE (kwX X) tb g) {h : U → U → Hm → QU → Prop} : EvE (kwX X) (tOp (R2s (kwX X) h) ta tb) (fun σ M Q => f σ M fun x M1 => g σ M1 fun y M2 => h x y M2 Q) := fun σ H σu M Qu Q rs S hf c => by
  refine q1 σ H σu M _ _ rs S hf fun v H1 u M1 st S1 r hq => ?_
  refine q2 σ H1 σu M1 _ _ (rs.stp S st) S1 hq fun v2 H2 u2 M2 st2 S2 r2 hq2 => ?_
  exact ⟨u, u2, M2, Qu, S2, r.stp S1 st2, r2, hq2, c.tr S (st.trans S st2)⟩
theorem se_bin {op : Bop} {a b : Expr} {f g : WE} {pos : Pos} (h1 : SE1 X f a) (h2 : SE1 X g b) : SE1 X (fun σ M Q => f σ M fun x M1 => g σ M1 fun y M2 => binW op x y M2 Q) (.BinOp a (bopOf op) b pos) := by
  obtain ⟨t1, p1, q1⟩ := h1
  obtain ⟨t2, p2, q2⟩ := h2
  exact ⟨_, pe_op (op_binS op) p1 p2, two q1 q2⟩
theorem se_neg {a : Expr} {f : WE} {pos : Pos} (h1 : SE1 X f a) : SE1 X (fun σ M Q => f σ M fun x M1 => ∃ i, x = .int i ∧ Q (.int (-i)) M1) (.UnaryOp .USub a pos) := by
  obtain ⟨t1, p1, q1⟩ := h1
  refine ⟨_, pe_un un_neg p1, fun σ H σu M Qu Q rs S hf c => ?_⟩
  refine q1 σ H σu M _ _ rs S hf fun v H1 u M1 st S1 r hq => ?_
  obtain ⟨i, rfl, q⟩ := hq
  cases r
  exact ⟨i, rfl, (c.tr S st).at_ S1 (.int _) q⟩
theorem bl_same {Qu : Bool → Hm → Prop} : (fun (b : Bool) (M1 : Hm) => ∃ b', U.bl b = .bl b' ∧ Qu b' M1) = Qu := by
  funext b M1
  exact propext ⟨fun ⟨b', e, q⟩ => by cases e; exact q, fun q => ⟨b, rfl, q⟩⟩
/-- from a value that is a bool to a test -/
theorem ev_test {f : WT} {t : TE} (q : EvE (kwX X) t (fun σ M Q => f σ M fun b M1 => Q (.bl b) M1)) : EvT (kwX X) (tTest t) f := fun σ H σu M Qu Q rs S hf c => by
  refine q σ H σu M (fun u M' => ∃ b, u = .bl b ∧ Qu b M') _ rs S ?_ fun v H' u M' st S' r hq => ?_
  · show f σu M (fun (b : Bool) (M1 : Hm) => ∃ b', U.bl b = .bl b' ∧ Qu b' M1)
    rw [bl_same]
    exact hf
  · obtain ⟨b, rfl, hq⟩ := hq
    cases r
    exact ⟨b, rfl, c _ _ _ st S' hq⟩
theorem se_cmp {op : Cop} {a b : Expr} {f g : WE} {pos : Pos} (hu : X.A.units + 66 < cLine) (h1 : SE1 X f a) (h2 : SE1 X g b) (hm : behindInMarks (copOf op) b = false) :
    SE X (.ofB fun σ M Q => f σ M fun x M1 => g σ M1 fun y M2 => cmpW op x y M2 Q) (.Compare a [copOf op] [b] pos) := by
  obtain ⟨t1, p1, q1⟩ := h1
  obtain ⟨t2, p2, q2⟩ := h2
  have ev : EvE (kwX X) (tOp (R2s (kwX X) (asB (cmpW op))) t1 t2) (fun σ M Q => f σ M fun x M1 => g σ M1 fun y M2 => cmpW op x y M2 fun b M => Q (.bl b) M) := two q1 q2
  exact ⟨⟨_, pe_cmpR (op_cmpS hu op) p1 p2 hm, ev⟩, ⟨_, pt_cmpR (op_cmpS hu op) p1 p2 hm, ev_test ev⟩⟩
theorem se_chain {o1 o2 : Cop} {a b d : Expr} {f g h : WE} {pos : Pos} (hu : X.A.units + 66 < cLine) (h1 : SE1 X f a) (h2 : SE1 X g b) (h3 : SE1 X h d) (hm : lastMarks [copOf o1, copOf o2] [b, d] = false) :
    SE X (.ofB fun σ M Q => f σ M fun x M1 => g σ M1 fun y M2 => cmpW o1 x y M2 fun k M3 => if k = true then h σ M3 fun z M4 => cmpW o2 y z M4 Q else Q false M3) (.Compare a [copOf o1, copOf o2] [b, d] pos) := by
  obtain ⟨t1, p1, q1⟩ := h1
  obtain ⟨t2, p2, q2⟩ := h2
  obtain ⟨t3, p3, q3⟩ := h3
  have ev : EvE (kwX X) (tChain (R2s (kwX X) (asB (cmpW o1))) (R2s (kwX X) (asB (cmpW o2))) t1 t2 t3) (fun σ M Q => f σ M fun x M1 => g σ M1 fun y M2 => cmpW o1 x y M2 fun k M3 => if k = true then h σ M3 fun z M4 => cmpW o2 y z M4 fun b M => Q (.bl b) M else Q (.bl false) M3) := fun σ H σu M Qu Q rs S hf c => by
    refine q1 σ H σu M _ _ rs S hf fun v H1 u M1 st S1 r hq => ?_
    refine q2 σ H1 σu M1 _ _ (rs.stp S st) S1 hq fun v2 H2 u2 M2 st2 S2 r2 hq2 => ?_
    refine ⟨u, u2, M2, fun b' M3 => ∃ k, b' = .bl k ∧ (if k = true then h σu M3 fun z M4 => cmpW o2 u2 z M4 fun b M => Qu (.bl b) M else Qu (.bl false) M3), S2, r.stp S1 st2, r2, ?_, ?_⟩
    · have e : (fun (k : Bool) (M3 : Hm) => ∃ k', U.bl k = .bl k' ∧ (if k' = true then h σu M3 fun z M4 => cmpW o2 u2 z M4 fun b M => Qu (.bl b) M else Qu (.bl false) M3)) = (fun k M3 => if k = true then h σu M3 fun z M4 => cmpW o2 u2 z M4 fun b M => Qu (.bl b) M else Qu (.bl false) M3) := by
        funext k M3
        exact propext ⟨fun ⟨k', e, q⟩ => by cases e; exact q, fun q => ⟨k, rfl, q⟩⟩
      show cmpW o1 u u2 M2 _
      rw [e]
      exact hq2
    · intro v3 H3 u3 M3 st3 S3 r3 hq3
      obtain ⟨k, rfl, hq3⟩ := hq3
      cases r3
      refine ⟨k, rfl, ?_⟩
      cases k with
      | false => exact c _ _ _ _ ((st.trans S st2).trans S st3) S3 (.bl _) hq3
      | true =>
        refine q3 σ H3 σu M3 _ _ (rs.stp S ((st.trans S st2).trans S st3)) S3 hq3 fun v4 H4 u4 M4 st4 S4 r4 hq4 => ?_
        exact ⟨u2, u4, M4, Qu, S4, (r2.stp S2 st3).stp S3 st4, r4, hq4, c.tr S (((st.trans S st2).trans S st3).trans S st4)⟩
  refine ⟨⟨_, pe_chain (op_cmpS hu o1) (op_cmpS hu o2) p1 p2 p3 hm, ?_⟩, ⟨_, pt_chain (op_cmpS hu o1) (op_cmpS hu o2) p1 p2 p3 hm, ev_test ?_⟩⟩
  · intro σ H σu M Qu Q rs S hf c
    exact ev σ H σu M Qu Q rs S hf c
  · intro σ H σu M Qu Q rs S hf c
    exact ev σ H σu M Qu Q rs S hf c
theorem rel_non {K : Kw} {H : Hp} {v : V} {u : U} (r : Rel K H v u) : decide (v = .non) = decide (u = .non) := by
  cases r <;> simp
theorem ev_isN {f : WE} {t : TE} (q1 : EvE (kwX X) t f) : EvE (kwX X) (tIsN t) (fun σ M Q => f σ M fun x M1 => Q (.bl (decide (x = .non))) M1) := fun σ H σu M Qu Q rs S hf c => by
  refine q1 σ H σu M _ _ rs S hf fun v H1 u M1 st S1 r hq => ?_
  rw [rel_non r]
  exact c _ _ _ _ st S1 (.bl _) hq
theorem ev_notN {f : WE} {t : TE} (q1 : EvE (kwX X) t f) : EvE (kwX X) (tNotN t) (fun σ M Q => f σ M fun x M1 => Q (.bl (!decide (x = .non))) M1) := fun σ H σu M Qu Q rs S hf c => by
  refine q1 σ H σu M _ _ rs S hf fun v H1 u M1 st S1 r hq => ?_
  rw [rel_non r]
  exact c _ _ _ _ st S1 (.bl _) hq
theorem se_isN {a : Expr} {f : WE} {k : Nat} {p1 pos : Pos} (h1 : SE1 X f a) : SE X (.ofB fun σ M Q => f σ M fun x M1 => Q (decide (x = .non)) M1) (.Compare a [.Is] [.Constant .none k p1] pos) := by
  obtain ⟨t1, p1, q1⟩ := h1
  exact ⟨⟨_, pe_cmp (pc_isN p1) rfl, ev_isN q1⟩, ⟨_, pt_cmp (pc_isN p1) rfl, ev_test (f := fun σ M Q => f σ M fun x M1 => Q (decide (x = .non)) M1) (ev_isN q1)⟩⟩
theorem se_notN {a : Expr} {f : WE} {k : Nat} {p1 pos : Pos} (h1 : SE1 X f a) : SE X (.ofB fun σ M Q => f σ M fun x M1 => Q (!decide (x = .non)) M1) (.Compare a [.IsNot] [.Constant .none k p1] pos) := by
  obtain ⟨t1, p1, q1⟩ := h1
  exact ⟨⟨_, pe_cmp (pc_notN p1) rfl, ev_notN q1⟩, ⟨_, pt_cmp (pc_notN p1) rfl, ev_test (f := fun σ M Q => f σ M fun x M1 => Q (!decide (x = .non)) M1) (ev_notN q1)⟩⟩
theorem se_isB {neg b : Bool} {a : Expr} {f : WE} {k : Nat} {p1 pos : Pos} (h1 : SE1 X f a) :
    SE X (.ofB fun σ M Q => f σ M fun x M1 => ∃ c, x = .bl c ∧ Q (if neg then !decide (c = b) else decide (c = b)) M1) (.Compare a [if neg then .IsNot else .Is] [.Constant (.bool b) k p1] pos) := by
  obtain ⟨t1, p1, q1⟩ := h1
  cases neg with
  | false =>
    have ev : EvE (kwX X) (tOp rIsB t1 (tC (.bl b))) (fun σ M Q => f σ M fun x M1 => ∃ c, x = .bl c ∧ Q (.bl (decide (c = b))) M1) := fun σ H σu M Qu Q rs S hf c => by
      refine q1 σ H σu M _ _ rs S hf fun v H1 u M1 st S1 r hq => ?_
      obtain ⟨d, rfl, q⟩ := hq
      cases r
      exact ⟨d, b, rfl, rfl, c _ _ _ _ st S1 (.bl _) q⟩
    exact ⟨⟨_, pe_cmpR op_isBl p1 pe_bl (nomark _), ev⟩, ⟨_, pt_cmpR op_isBl p1 pe_bl (nomark _), ev_test (f := fun σ M Q => f σ M fun x M1 => ∃ c, x = .bl c ∧ Q (decide (c = b)) M1) ev⟩⟩
  | true =>
    have ev : EvE (kwX X) (tOp rNotB t1 (tC (.bl b))) (fun σ M Q => f σ M fun x M1 => ∃ c, x = .bl c ∧ Q (.bl (!decide (c = b))) M1) := fun σ H σu M Qu Q rs S hf c => by
      refine q1 σ H σu M _ _ rs S hf fun v H1 u M1 st S1 r hq => ?_
      obtain ⟨d, rfl, q⟩ := hq
      cases r
      exact ⟨d, b, rfl, rfl, c _ _ _ _ st S1 (.bl _) q⟩
    exact ⟨⟨_, pe_cmpR op_notBl p1 pe_bl (nomark _), ev⟩, ⟨_, pt_cmpR op_notBl p1 pe_bl (nomark _), ev_test (f := fun σ M Q => f σ M fun x M1 => ∃ c, x = .bl c ∧ Q (!decide (c = b)) M1) ev⟩⟩
theorem se_not {a : Expr} {W : Wp} {pos : Pos} (h : SE X W a) : SE X ⟨fun σ M Q => W.e σ M fun x M1 => truW x M1 fun b M2 => Q (.bl (!b)) M2, fun σ M Q => W.t σ M fun b M1 => Q (!b) M1, fun _ _ _ => False, fT, fT, fE, fE, fI⟩ (.UnaryOp .Not a pos) := by
  obtain ⟨⟨t1, p1, q1⟩, ⟨t2, p2, q2⟩⟩ := h
  refine ⟨⟨_, pe_notT p1, fun σ H σu M Qu Q rs S hf c => ?_⟩, ⟨_, pt_not p2, fun σ H σu M Qu Q rs S hf c => ?_⟩⟩
  · exact q1 σ H σu M _ _ rs S hf fun v H1 u M1 st S1 r hq => tru_of (Q := fun b H => Q (.bl (!b)) H) ⟨u, M1, fun b M2 => Qu (.bl (!b)) M2, S1, r, hq, fun b H' M' st' S' q' => c _ _ _ _ (st.trans S st') S' (.bl _) q'⟩
  · exact q2 σ H σu M _ _ rs S hf fun b H1 M1 st S1 hq => c _ _ _ st S1 hq
theorem se_ite {c0 a b : Expr} {fc : WT} {f g : WE} {pos : Pos} (hc : ST X fc c0) (h1 : SE1 X f a) (h2 : SE1 X g b) :
    SE1 X (fun σ M Q => fc σ M fun k M1 => if k = true then f σ M1 Q else g σ M1 Q) (.IfExp c0 a b pos) := by
  obtain ⟨t0, p0, q0⟩ := hc
  obtain ⟨t1, p1, q1⟩ := h1
  obtain ⟨t2, p2, q2⟩ := h2
  refine ⟨_, pe_ifExp p0 p1 p2, fun σ H σu M Qu Q rs S hf c => ?_⟩
  refine q0 σ H σu M _ _ rs S hf fun k H1 M1 st S1 hq => ?_
  cases k with
  | true => exact q1 σ H1 σu M1 Qu Q (rs.stp S st) S1 hq (c.tr S st)
  | false => exact q2 σ H1 σu M1 Qu Q (rs.stp S st) S1 hq (c.tr S st)
def notSlice : Expr → Bool
  | .Slice .. => false
  | _ => true
theorem plainIx_of {e : Expr} (h : notSlice e = true) : PlainIx e := fun o i => by
  cases e <;> first | (cases h; done) | rfl
theorem se_ix {a b : Expr} {f g : WE} {pos : Pos} (hu : X.A.units + 66 < cLine) (hs : notSlice b = true) (h1 : SE1 X f a) (h2 : SE1 X g b) : SE1 X (fun σ M Q => f σ M fun x M1 => g σ M1 fun y M2 => ixW x y M2 Q) (.Subscript a b pos) := by
  obtain ⟨t1, p1, q1⟩ := h1
  obtain ⟨t2, p2, q2⟩ := h2
  exact ⟨_, pe_ix (ix_S hu) p1 p2 (plainIx_of hs), two q1 q2⟩
theorem so_none : SO X (fun _ M Q => Q none M) none := ⟨_, po_none, fun σ H σu M Qu Q rs S hf c => c _ _ _ (Stp.refl H M) S hf⟩
theorem so_some {e : Expr} {f : WE} (h : SE1 X f e) : SO X (fun σ M Q => f σ M fun x M1 => ∃ i, x = .int i ∧ Q (some i) M1) (some e) := by
  obtain ⟨t, p, q⟩ := h
  refine ⟨_, po_some p, fun σ H σu M Qu Q rs S hf c => ?_⟩
  refine q σ H σu M _ _ rs S hf fun v H1 u M1 st S1 r hq => ?_
  obtain ⟨i, rfl, q⟩ := hq
  cases r
  exact ⟨i, rfl, c _ _ _ st S1 q⟩
theorem se_slice {a : Expr} {lo hi : Option Expr} {f : WE} {g h : WO} {p2 pos : Pos} (h1 : SE1 X f a) (h2 : SO X g lo) (h3 : SO X h hi) :
    SE1 X (fun σ M Q => f σ M fun x M1 => g σ M1 fun l M2 => h σ M2 fun u M3 => sliceW x l u M3 Q) (.Subscript a (.Slice lo hi none p2) pos) := by
  obtain ⟨t1, p1, q1⟩ := h1
  obtain ⟨t2, p2, q2⟩ := h2
  obtain ⟨t3, p3, q3⟩ := h3
  refine ⟨_, pe_slice sl_S p1 p2 p3, fun σ H σu M Qu Q rs S hf c => ?_⟩
  refine q1 σ H σu M _ _ rs S hf fun v H1 u M1 st S1 r hq => ?_
  refine q2 σ H1 σu M1 _ _ (rs.stp S st) S1 hq fun l H2 M2 st2 S2 hq2 => ?_
  refine q3 σ H2 σu M2 _ _ (rs.stp S (st.trans S st2)) S2 hq2 fun l3 H3 M3 st3 S3 hq3 => ?_
  exact ⟨u, M3, Qu, S3, (r.stp S1 st2).stp S2 st3, hq3, c.tr S ((st.trans S st2).trans S st3)⟩
/-- the promise of a def, said by values -/
def spOf (K : Kw) (g : List U → Hm → QU → Prop) : Sp := fun vs H Q _ => CRs K g vs H Q
theorem ev_call {g : WL} {t : TA} {r : List V → Hp → VK → Prop} {k : List U → Hm → QU → Prop} (q : EvL (kwX X) t g) (hr : ∀ vs H Q, CRs (kwX X) k vs H Q → r vs H Q) : EvE (kwX X) (fun σ H Q => t σ H fun vs H1 => r vs H1 Q) (fun σ M Q => g σ M fun xs M1 => k xs M1 Q) := fun σ H σu M Qu Q rs S hf c => by
  refine q σ H σu M _ _ rs S hf fun vs H1 us M1 st S1 r1 hq => ?_
  exact hr _ _ _ ⟨us, M1, Qu, S1, r1, hq, c.tr S st⟩
theorem se_blt {f : Bfn} {v : Value} {x : Str} {e : Expr} {es : List Expr} {g : WL} {p pos : Pos} (hc : X.calm = true) (hu : X.A.units + 66 < cLine) (hb : bfnV f = some v) (hg : Gl X x) (hm : X.mg x = none) (hv : bootBuiltins x = some v) (hn : x ≠ "__name__") (hdb : (x == ("__debug__" : Str)) = false)
    (hs : (e :: es).all (fun e => !isStar e) = true) (h : SA X g (e :: es)) : SE1 X (fun σ M Q => g σ M fun xs M1 => bltW f xs M1 Q) (.Call (.Name x p) (e :: es) [] pos) := by
  obtain ⟨t, pt, q⟩ := h
  have hs2 : isStar e = false ∧ es.all (fun e => !isStar e) = true := by
    rw [List.all_cons, Bool.and_eq_true] at hs
    exact ⟨by simpa using hs.1, hs.2⟩
  have hr := cr_S (X := X) hc hu hb
  have bl : ∀ id, v = .builtin id → SE1 X (fun σ M Q => g σ M fun xs M1 => bltW f xs M1 Q) (.Call (.Name x p) (e :: es) [] pos) := fun id ev => by
    subst ev
    exact ⟨_, pe_callB hr hg hm hv pt hn hdb (star_cons hs2.1) (star_plain hs2.2), ev_call q fun _ _ _ z => z⟩
  have ty : ∀ id, v = .type id → SE1 X (fun σ M Q => g σ M fun xs M1 => bltW f xs M1 Q) (.Call (.Name x p) (e :: es) [] pos) := fun id ev => by
    subst ev
    exact ⟨_, pe_callTy hr hg hm hv pt hn hdb (star_cons hs2.1) (star_plain hs2.2), ev_call q fun _ _ _ z => z⟩
  cases f <;> first | (cases hb; done) | (cases hb; first | exact bl _ rfl | exact ty _ rfl)
theorem se_call {k : Nat} {f : Addr} {fd : FuncData} {ps : List Str} {x : Str} {e : Expr} {es : List Expr} {g : WL} {c : List U → Hm → QU → Prop} {p pos : Pos} (F : FnOk X.prog X.w (kwX X) X.mg X.base CX0 k f fd ps (spOf (kwX X) c)) (hr : Room k X.A) (hg : Gl X x) (hm : X.mg x = some (.ref f))
    (hk : PySem.W.keepIn (kwX X) (.ref f) = true) (hb : Binds (kwX X) fd ps []) (hdb : (x == ("__debug__" : Str)) = false) (hs : (e :: es).all (fun e => !isStar e) = true) (h : SA X g (e :: es)) :
    SE1 X (fun σ M Q => g σ M fun xs M1 => c xs M1 Q) (.Call (.Name x p) (e :: es) [] pos) := by
  obtain ⟨t, pt, q⟩ := h
  have hs2 : isStar e = false ∧ es.all (fun e => !isStar e) = true := by
    rw [List.all_cons, Bool.and_eq_true] at hs
    exact ⟨by simpa using hs.1, hs.2⟩
  refine ⟨_, pe_call F hr hg hm hk hb .nil pass0 pt hdb (star_cons hs2.1) (star_plain hs2.2), fun σ H σu M Qu Q rs S hf ct => ?_⟩
  refine q σ H σu M _ _ rs S hf fun vs H1 us M1 st S1 r1 hq => ?_
  rw [List.append_nil]
  exact ⟨us, M1, Qu, S1, r1, hq, ct.tr S st⟩
theorem se_call0 {k : Nat} {f : Addr} {fd : FuncData} {ps : List Str} {x : Str} {c : List U → Hm → QU → Prop} {p pos : Pos} (F : FnOk X.prog X.w (kwX X) X.mg X.base CX0 k f fd ps (spOf (kwX X) c)) (hr : Room k X.A) (hg : Gl X x) (hm : X.mg x = some (.ref f))
    (hk : PySem.W.keepIn (kwX X) (.ref f) = true) (hb : Binds (kwX X) fd ps []) (hdb : (x == ("__debug__" : Str)) = false) :
    SE1 X (fun σ M Q => c [] M Q) (.Call (.Name x p) [] [] pos) :=
  ⟨_, pe_call0 F hr hg hm hk hb .nil pass0 hdb, fun σ H σu M Qu Q rs S hf ct => ⟨[], M, Qu, S, .nil, hf, ct⟩⟩
theorem keep_base {o : Expr} {n : Str} {env : Env} (h : (match o with | .Call (.Name id _) [] [] _ => id != "super" | _ => true) = true) : attributeBase o n env (eval o env) = eval o env := by
  unfold attributeBase
  split
  · rename_i id p pos
    have h2 : (id != "super") = true := h
    simp [h2]
  · rfl
end
end Pl

set_option maxHeartbeats 400000
/-! enumerate over a list or a tuple -/
namespace Pl
section
open PySem PySem.W PySem.W.X PyProof.Rows L2
theorem wp_pure_eq {α : Type} {M : Model} {A : Around} {Q : α → Shared → Prop} {E : Value → Shared → Prop} {s : Shared} {m : Sem α} {a : α} (h : m = pure a) (q : Q a s) : wpAny M A m Q E s := by
  rw [h]
  exact wpAny_pure q
theorem wp_ite_any {α : Type} {M : Model} {A : Around} {Q : α → Shared → Prop} {E : Value → Shared → Prop} {s : Shared} {b : Bool} {t e : Sem α} (h1 : wpAny M A t Q E s) (h2 : wpAny M A e Q E s) : wpAny M A (if b = true then t else e) Q E s := by
  cases b
  · exact h2
  · exact h1
theorem meets_enumB {v : Value} {o : Obj} {H : Heap → Prop} (B : Begins v o H) : Meets (Builtin.«enumerate.__new__» { pos := [Value.type "enumerate", v] }) fun x R s => H s.heap ∧ R (.ok (.ret (.ref (s.heap.push o).objs.size))) { s with heap := (s.heap.push o).push ⟨.type "enumerate", none, .fields #[Value.none, Value.bool false, Value.ref s.heap.objs.size, rawInt 0, Value.none, Value.none], #[]⟩ } := by
  refine Meets.of_wp fun prog w A R s h => ?_
  obtain ⟨h1, h⟩ := h
  refine wpAny_bind (wpAny_bind (wpAny_pure (wpAny_ite_false (Eq.refl _) (wpAny_bind (wpAny_of_eq sub_enumerate (wpAny_ite_false (Eq.refl _) (wpAny_pure (wpAny_ite_true (Eq.refl _) (wpAny_bind (wpAny_bind (wpAny_stack_any fun st => wpAny_pure ?_)))))))))))
  refine wp_ite_any ?_ ?_
  · refine wpAny_bind ?_
    refine wp_pure_eq (a := (v, none)) rfl ?_
    refine wpAny_bind ?_
    refine B.iter _ _ _ _ _ _ h1 ?_
    refine wpAny_bind ?_
    unfold Builtin.SmallTypes.newRecord newObj
    apply wpAny_ite_false
    · exact rfl
    refine wpAny_bind ?_
    refine wpAny_alloc' ?_
    refine wpAny_pure ?_
    refine wpAny_pure ?_
    exact ⟨_, rfl, h⟩
  · refine wpAny_bind ?_
    refine wp_pure_eq (a := (v, none)) rfl ?_
    refine wpAny_bind ?_
    refine B.iter _ _ _ _ _ _ h1 ?_
    refine wpAny_bind ?_
    unfold Builtin.SmallTypes.newRecord newObj
    apply wpAny_ite_false
    · exact rfl
    refine wpAny_bind ?_
    refine wpAny_alloc' ?_
    refine wpAny_pure ?_
    refine wpAny_pure ?_
    exact ⟨_, rfl, h⟩
theorem call_enumB {prog : Program} {w : World} {A : Around} {E : Value → Shared → Prop} {s : Shared} {v : Value} {o : Obj} {H : Heap → Prop} {Q : Value → Shared → Prop} (B : Begins v o H) (h1 : H s.heap)
    (h : ∀ h' : Heap, IsEnum h' (s.heap.objs.size + 1) s.heap.objs.size 0 Value.none → h'.get? s.heap.objs.size = some o → h'.objs.size = s.heap.objs.size + 2 → (∀ (b : Addr) (o : Obj), s.heap.get? b = some o → h'.get? b = some o) → Q (Value.ref (s.heap.objs.size + 1)) { s with heap := h' }) :
    wpAny (model prog w) A (call (Value.type "enumerate") [v]) Q E s := by
  refine callType_new F.called_enumerate (of_decide_eq_true (id (Eq.refl true))) (F.typeCall_enumerate_1 v) (F.newCall_enumerate_1 v) (fun obj => F.args_object_init_2 obj v) F.entry_enumerate_new (meets_enumB B) ⟨h1, ?_⟩
  have hz := Heap.size_push s.heap o
  have he := Heap.get?_push_size (s.heap.push o) (o := ⟨.type "enumerate", none, .fields #[Value.none, Value.bool false, Value.ref s.heap.objs.size, rawInt 0, Value.none, Value.none], #[]⟩) rfl
  show Shared.TypeIs _ (Value.ref (s.heap.push o).objs.size) "enumerate" ∧ Q (Value.ref (s.heap.push o).objs.size) _
  rw [hz] at he ⊢
  refine ⟨⟨_, he, rfl⟩, h _ he (Heap.get?_push_of_some _ (Heap.get?_push_size s.heap B.free)) ?_ fun b o' x => Heap.get?_push_of_some _ (Heap.get?_push_of_some _ x)⟩
  rw [Heap.size_push, hz]
/-- the walk over a tuple by enumerate -/
def IteT (K : Frag) (a : Addr) : It := ⟨fun i H => ∃ xs x, SqT K H a xs ∧ xs[i]? = some x, fun i H v H' => ∃ (T : Addr) (x : V), v = V.ref T ∧ H T = none ∧ H' = upd H T (.tup [.int (i : Nat), x]) ∧ ∀ xs, SqT K H a xs → xs[i]? = some x, fun i H => ∃ xs, SqT K H a xs ∧ xs.length = i⟩
theorem turn_enumT {P : Program} {w : World} {K : Frag} {elts : List Expr} {kk : Nat} {tpos : Pos} (a e it : Addr) : Turn P w K (.Tuple elts kk tpos) (IteT K a) [e, it] e (fun i h => (∃ old, IsEnum h e it (i : Nat) old) ∧ h.IsTupleIter it a i ∧ e ≠ it ∧ e ≠ a ∧ it ≠ a) := by
  refine ⟨by simp, ?_, ?_, ?_, ?_, ?_⟩
  · intro i h ⟨⟨old, he⟩, ⟨o, ho, hc, hd⟩, _⟩ b hb
    rcases List.mem_cons.mp hb with hb | hb
    · subst hb; exact ⟨_, he, fun v q => nomatch q⟩
    · rw [List.mem_singleton] at hb; subst hb; exact ⟨o, ho, fun v q => by rw [hd] at q; cases q⟩
  · intro i h h' ⟨⟨old, he⟩, ⟨o, ho, hc, hd⟩, n⟩ k
    exact ⟨⟨old, k e (by simp) _ he⟩, ⟨o, k it (by simp) _ ho, hc, hd⟩, n⟩
  · intro X hP hw hK hc i pins s σ H E I hf st hg
    subst hP hw hK
    obtain ⟨⟨old, he⟩, hit, n1, n2, n3⟩ := st
    obtain ⟨xs, x, hq, hx⟩ := hg
    obtain ⟨its, rv, p, hz⟩ := I.tuple hq
    obtain ⟨u, hu, ru⟩ := Vals.get rv hx
    have hi : i < its.toArray.size := by
      rw [List.size_toArray]
      exact (List.getElem?_eq_some_iff.mp hu).1
    have W := WalksT.enumerateD (Draws.tuple (prog := X.prog) (w := X.w) (A := X.A.in1) (I.ok.hd hc) it a n3.symm its.toArray) e n1 (by simp [n1, n2]) (by simp)
    have pt : s.heap.IsTuple a its.toArray := p
    refine W.item i s _ E hi ⟨⟨old, he⟩, hit, pt⟩ fun T vals h' tk ⟨t, x', hx', ev⟩ hT hTup mid old' => ⟨.ref T, rfl, ?_⟩
    refine W.go elts kk tpos i T _ _ E mid fun h'' st'' old'' => ?_
    have ap := W.apart i T h' mid
    have ex' : u = x' := by
      have h2 : its.toArray[i]? = some x' := hx'
      rw [List.getElem?_toArray, hu] at h2
      exact Option.some.inj h2
    subst ex'
    obtain ⟨oT, hoT, hcT, nT, hdT⟩ := hTup
    have hT2 := old'' T oT ap hoT
    subst ev
    have new : ObjOk X.prog X.w (upd H T (.tup [.int (i : Nat), x])) h'' T (.tup [.int (i : Nat), x]) := ⟨of_decide_eq_true (id (Eq.refl true)), [Value.int (i : Nat) t, u], .cons ⟨t, rfl⟩ (.cons ru .nil), oT, hT2, hcT, nT, hdT⟩
    have hel : e < s.heap.objs.size := Heap.lt_size he
    have hil : it < s.heap.objs.size := by obtain ⟨o, ho, _⟩ := hit; exact Heap.lt_size ho
    have I1 := I.turnedNew (h' := h'') (t' := tk) (ch := [e, it]) (fun b ob hb q => old'' b ob hb (old' b ob hb q)) hf hT new
    refine ⟨.ref T, upd H T (.tup [.int (i : Nat), x]), I1, rfl, ⟨T, x, rfl, I.hok.fresh hT, rfl, fun ys hy => by rw [I.tuple_inj hy hq]; exact hx⟩, ?_, fun b hb => ?_⟩
    · exact ⟨st''.1, st''.2.1, n1, n2, n3⟩
    · have hb' : b < s.heap.objs.size := by
        rcases List.mem_cons.mp hb with hb | hb
        · subst hb; exact hel
        · rw [List.mem_singleton] at hb; subst hb; exact hil
      rw [upd_ne (Nat.ne_of_lt (Nat.lt_of_lt_of_le hb' hT))]
      exact (hf b hb).1
  · intro X hP hw hK hc i pins s σ H E I hf st hg
    subst hP hw hK
    obtain ⟨⟨old, he⟩, hit, n1, n2, n3⟩ := st
    obtain ⟨xs, hq, hle⟩ := hg
    obtain ⟨its, rv, p, hz⟩ := I.tuple hq
    have hn : its.toArray.size = i := by rw [List.size_toArray, ← Paired.length rv]; exact hle
    have D := Draws.tuple (prog := X.prog) (w := X.w) (A := X.A.in1) (I.ok.hd hc) it a n3.symm its.toArray
    have pt : s.heap.IsTuple a its.toArray := p
    obtain ⟨f0, f1, f2, f3, f4, f5⟩ := hf it (by simp)
    exact wpAny_pyNext_enum_endD D he (by rw [hn]; exact ⟨hit, pt⟩) fun h' eb => ⟨rfl, I.turned (fun b o hb q => eb b o hb q) f0 f1 f3 f4 f5⟩
  · intro A i s Q E ⟨⟨old, he⟩, _⟩ hQ
    exact wpAny_pyIter_enum he hQ
/-- enumerate over a list or a tuple -/
def iEn (K : Frag) (ta : TA) : TI := fun σ H R => ta σ H fun vs H1 => ∃ a : Addr, vs = [.ref a] ∧ (((∃ xs, SqL K H1 a xs) ∧ R (Ite K a) H1) ∨ ((∃ xs, SqT K H1 a xs) ∧ R (IteT K a) H1))
theorem pi_en {X : Cx} {e : Expr} {ta : TA} {p pos tpos : Pos} {elts : List Expr} {kk : Nat} (hg : Gl X "enumerate") (hm : X.mg "enumerate" = none) (ha : PA X [e] ta) (hs : starEach [e] X.env = [(false, eval e X.env)]) :
    PI X (.Tuple elts kk tpos) (.Call (.Name "enumerate" p) [e] [] pos) (iEn (kwX X) ta) := by
  refine ⟨fun pins s σ H R I h => ?_⟩
  refine Call_ (ld_blt I hg hm boot_enumerate (callWith_type1 (thn (ha.run pos pins s σ H _ I h) fun us s1 ⟨vs, H1, I1, r1, q1⟩ => ?_) hs rfl) (by decide +kernel) (by decide +kernel)) rfl
  obtain ⟨a, rfl, q⟩ := q1
  obtain ⟨u, rfl, ru⟩ := vals1 r1
  obtain rfl : u = Value.ref a := ru
  rcases q with ⟨⟨xs, hx⟩, q⟩ | ⟨⟨xs, hx⟩, q⟩
  · obtain ⟨its, rv, p, hz⟩ := I1.list hx
    refine call_enumerate_list p.isList fun h' he hit hsz hk => wpAny_pyIter_enum he ?_
    have I2 := I1.kept (t' := s1.toks) hk
    refine ⟨_, [s1.heap.objs.size + 1, s1.heap.objs.size], _, Ite (kwX X) a, H1, rfl, I2, turn_enum a _ _, ⟨⟨_, he⟩, hit, Nat.succ_ne_self _⟩, fun b hb => ?_, q⟩
    have hle : s1.heap.objs.size ≤ b := by
      rcases List.mem_cons.mp hb with hb | hb
      · subst hb; exact Nat.le_add_right _ _
      · rw [List.mem_singleton] at hb; subst hb; exact Nat.le_refl _
    exact I1.fpOk hle (I1.hok.fresh hle)
  · obtain ⟨its, rv, p, hz⟩ := I1.tuple hx
    have pt : s1.heap.IsTuple a its.toArray := p
    have ha : a < s1.heap.objs.size := by obtain ⟨o, ho, _⟩ := pt; exact Heap.lt_size ho
    refine call_enumB (begins_tuple a its.toArray) pt fun h' he ho hsz hk => wpAny_pyIter_enum he ?_
    have I2 := I1.kept (t' := s1.toks) hk
    refine ⟨_, [s1.heap.objs.size + 1, s1.heap.objs.size], _, IteT (kwX X) a, H1, rfl, I2, turn_enumT a _ _, ⟨⟨_, he⟩, ⟨_, ho, rfl, rfl⟩, Nat.succ_ne_self _, (Nat.ne_of_lt (Nat.lt_succ_of_lt ha)).symm, (Nat.ne_of_lt ha).symm⟩, fun b hb => ?_, q⟩
    have hle : s1.heap.objs.size ≤ b := by
      rcases List.mem_cons.mp hb with hb | hb
      · subst hb; exact Nat.le_add_right _ _
      · rw [List.mem_singleton] at hb; subst hb; exact Nat.le_refl _
    exact I1.fpOk hle (I1.hok.fresh hle)
end
end Pl

set_option maxHeartbeats 4000000
/-! methods, isinstance, what is walked, comprehensions -/
namespace Pl
open PySem L2
section
variable {X : Cx}
theorem few_args {env : Env} {pos : Pos} {es : List Expr} (h : es.all (fun e => !isStar e) = true) (hl : es.length < 10) :
    ((backTo pos (starEach es env)).all (fun x => !x.1) && (backToKw pos (keywordEach [] env)).all (fun x => x.1.isSome)
      && decide (es.length + ([] : List Keyword).length + (if ([] : List Keyword).isEmpty then 0 else 1) < 30)) = true := by
  have h1 : (backTo pos (starEach es env)).all (fun x => !x.1) = true := by
    have h2 : ∀ es : List Expr, es.all (fun e => !isStar e) = true → (backTo pos (starEach es env)).all (fun x => !x.1) = true := by
      intro es
      induction es with
      | nil => intro _; rfl
      | cons e es ih =>
        intro h
        rw [List.all_cons, Bool.and_eq_true] at h
        rw [star_cons (by simpa using h.1)]
        exact ih h.2
    exact h2 es h
  rw [h1]
  simp [backToKw, keywordEach]
  omega
theorem rcv_ty {K : Kw} {m : Mfn} {T : String} {n : Str} {id : String} {x : V} {u : U} {H : Hp} {M : Hm} (S : Sim K H M) (r : Rel K H x u) (h : mfnT m = some (T, n, id)) (q : rcvW m u M) : tyV K T x H := by
  unfold mfnT at h
  unfold rcvW at q
  split at h <;> first | (cases h; done) | skip
  · cases h
    obtain ⟨p, us, rfl, e⟩ := q
    cases r
    obtain ⟨vs, e2, _⟩ := S _ _ e
    exact .inl ⟨rfl, vs, .inl (.inl e2)⟩
  · cases h
    obtain ⟨p, us, rfl, e⟩ := q
    cases r
    obtain ⟨vs, e2, _⟩ := S _ _ e
    exact .inl ⟨rfl, vs, .inl (.inl e2)⟩
  · cases h
    obtain ⟨p, us, rfl, e⟩ := q
    cases r
    obtain ⟨vs, e2, _⟩ := S _ _ e
    exact .inl ⟨rfl, vs, .inl (.inl e2)⟩
  · cases h
    obtain ⟨p, us, rfl, e⟩ := q
    cases r
    obtain ⟨vs, e2, _⟩ := S _ _ e
    exact .inl ⟨rfl, vs, .inl (.inl e2)⟩
  · cases h
    obtain ⟨p, us, rfl, e⟩ := q
    cases r
    obtain ⟨vs, e2, _⟩ := S _ _ e
    exact .inl ⟨rfl, vs, .inl (.inl e2)⟩
  · cases h
    obtain ⟨s, rfl⟩ := q
    cases r
    exact rfl
  · cases h
    obtain ⟨p, ks, rfl, e⟩ := q
    cases r
    obtain ⟨kvs, e2, _⟩ := S _ _ e
    exact .inr (.inr (.inl ⟨rfl, .inr ⟨kvs, e2⟩⟩))
theorem mt_S (hu : X.A.units + 66 < cLine) (m : Mfn) {T : String} {n : Str} {id : String} (h : mfnT m = some (T, n, id)) : PlainAttrs T ∧ Slot T n id ∧ typeOf (.builtin id) = pure (.type "method_descriptor") ∧ MtR X id (MRs (kwX X) (mthW m)) := by
  unfold mfnT at h
  split at h <;> first | (cases h; done) | skip
  · cases h; exact ⟨PySem.F.plainAttrs_list, PySem.F.slot_list_append, PySem.F.type_list_append, mt_appendS⟩
  · cases h; exact ⟨PySem.F.plainAttrs_list, PySem.F.slot_list_extend, PySem.F.type_list_extend, mt_extendS⟩
  · cases h; exact ⟨PySem.F.plainAttrs_list, PySem.F.slot_list_pop, PySem.F.type_list_pop, mt_popS⟩
  · cases h; exact ⟨PySem.F.plainAttrs_list, PySem.F.slot_list_pop, PySem.F.type_list_pop, mt_popAtS⟩
  · cases h; exact ⟨PySem.F.plainAttrs_list, PySem.F.slot_list_index, PySem.F.type_list_index, mt_indexS hu⟩
  · cases h; exact ⟨PySem.F.plainAttrs_str, PySem.F.slot_str_split, PySem.F.type_str_split, mt_splitS⟩
  · cases h; exact ⟨PySem.F.plainAttrs_dict, PySem.F.slot_dict_pop, PySem.F.type_dict_pop, mt_pop2S hu⟩
def notSup : Expr → Bool
  | .Call (.Name id _) [] [] _ => id != "super"
  | _ => true
theorem base_of {o : Expr} {n : Str} {env : Env} (h : notSup o = true) : attributeBase o n env (eval o env) = eval o env := by
  unfold attributeBase
  split
  · rename_i id p pos
    have h2 : (id != "super") = true := h
    simp [h2]
  · rfl
theorem se_mth {m : Mfn} {T : String} {n : Str} {id : String} {o : Expr} {es : List Expr} {f : WE} {g : WL} {apos pos : Pos} (hu : X.A.units + 66 < cLine) (hm : mfnT m = some (T, n, id)) (hs : es.all (fun e => !isStar e) = true) (hl : es.length < 10) (hline : (apos.endLine == pos.line) = true) (hb : notSup o = true)
    (h1 : SE1 X f o) (h2 : SA X g es) (hg0 : es = [] → g = fun _ M Q => Q [] M) : SE1 X (fun σ M Q => f σ M fun x M1 => rcvW m x M1 ∧ g σ M1 fun xs M2 => mthW m x xs M2 Q) (.Call (.Attribute o n apos) es [] pos) := by
  obtain ⟨t1, p1, q1⟩ := h1
  obtain ⟨t2, p2, q2⟩ := h2
  obtain ⟨pa, sl, ty, mt⟩ := mt_S (X := X) hu m hm
  cases es with
  | nil =>
    rw [hg0 rfl]
    refine ⟨_, pe_bm0 pa sl ty mt p1 (base_of hb) hline, fun σ H σu M Qu Q rs S hf c => ?_⟩
    refine q1 σ H σu M _ _ rs S hf fun v H1 u M1 st S1 r hq => ?_
    exact ⟨rcv_ty S1 r hm hq.1, u, [], M1, Qu, S1, r, .nil, hq.2, c.tr S st⟩
  | cons e es =>
    have hs2 : isStar e = false ∧ es.all (fun e => !isStar e) = true := by
      rw [List.all_cons, Bool.and_eq_true] at hs
      exact ⟨by simpa using hs.1, hs.2⟩
    refine ⟨_, pe_bm pa sl ty mt p1 p2 (base_of hb) (few_args hs hl) hline (star_cons hs2.1) (star_plain hs2.2), fun σ H σu M Qu Q rs S hf c => ?_⟩
    refine q1 σ H σu M _ _ rs S hf fun v H1 u M1 st S1 r hq => ?_
    refine ⟨rcv_ty S1 r hm hq.1, ?_⟩
    refine q2 σ H1 σu M1 _ _ (rs.stp S st) S1 hq.2 fun vs H2 us M2 st2 S2 rl hq2 => ?_
    exact ⟨u, us, M2, Qu, S2, r.stp S1 st2, rl, hq2, c.tr S (st.trans S st2)⟩
theorem se_dget {o e d : Expr} {f g h : WE} {apos pos : Pos} (hu : X.A.units + 66 < cLine) (hs : isStar e = false) (hs2 : isStar d = false) (hline : (apos.endLine == pos.line) = true) (hb : notSup o = true) (h1 : SE1 X f o) (h2 : SE1 X g e) (h3 : SE1 X h d) :
    SE1 X (fun σ M Q => f σ M fun x M1 => isDW x M1 ∧ g σ M1 fun y M2 => h σ M2 fun v M3 => dgetW x y v M3 Q) (.Call (.Attribute o "get" apos) [e, d] [] pos) := by
  obtain ⟨t1, p1, q1⟩ := h1
  obtain ⟨t2, p2, q2⟩ := h2
  obtain ⟨t3, p3, q3⟩ := h3
  have hall : [e, d].all (fun e => !isStar e) = true := by simp [hs, hs2]
  refine ⟨_, pe_dget2 (by omega) p1 p2 p3 ⟨base_of hb, few_args hall (by simp), hline, by rw [star_cons hs, star_cons hs2]; rfl⟩, fun σ H σu M Qu Q rs S hf c => ?_⟩
  refine q1 σ H σu M _ _ rs S hf fun v H1 u M1 st S1 r hq => ?_
  obtain ⟨⟨p, z, t, ks, rfl, hm⟩, hq⟩ := hq
  cases r
  have hd : IsD H1 p := by
    have q := S1 p _ hm
    cases t with
    | false => obtain ⟨kvs, e, _⟩ := q; exact .inl ⟨kvs, fz_rd e⟩
    | true => obtain ⟨kvs, e, _⟩ := q; exact .inr ⟨kvs, fz_rd e⟩
  refine ⟨p, rfl, hd, ?_⟩
  refine q2 σ H1 σu M1 _ _ (rs.stp S st) S1 hq fun y H2 uy M2 st2 S2 ry hq2 => ?_
  refine q3 σ H2 σu M2 _ _ (rs.stp S (st.trans S st2)) S2 hq2 fun w H3 uw M3 st3 S3 rw' hq3 => ?_
  obtain ⟨p', z', t', ks', e, hm3, hk, hq3⟩ := hq3
  cases e
  obtain ⟨o', hg, ho⟩ := dget_of S3 hm3 hk (ry.stp S2 st3)
  have cc := c.tr S ((st.trans S st2).trans S st3)
  refine ⟨o', hg, ?_⟩
  rcases ho with ⟨rfl, hn⟩ | ⟨v', u', rfl, hs', rv⟩
  · rw [hn] at hq3
    exact cc.at_ S3 rw' hq3
  · rw [hs'] at hq3
    exact cc.at_ S3 rv hq3
theorem se_dget1 {o e : Expr} {f g : WE} {apos pos : Pos} (hu : X.A.units + 66 < cLine) (hs : isStar e = false) (hline : (apos.endLine == pos.line) = true) (hb : notSup o = true) (h1 : SE1 X f o) (h2 : SE1 X g e) :
    SE1 X (fun σ M Q => f σ M fun x M1 => isDW x M1 ∧ g σ M1 fun y M2 => dgetW x y .non M2 Q) (.Call (.Attribute o "get" apos) [e] [] pos) := by
  obtain ⟨t1, p1, q1⟩ := h1
  obtain ⟨t2, p2, q2⟩ := h2
  have hall : [e].all (fun e => !isStar e) = true := by simp [hs]
  refine ⟨_, pe_dget1 (by omega) p1 p2 ⟨base_of hb, few_args hall (by simp), hline, by rw [star_cons hs]; rfl⟩, fun σ H σu M Qu Q rs S hf c => ?_⟩
  refine q1 σ H σu M _ _ rs S hf fun v H1 u M1 st S1 r hq => ?_
  obtain ⟨⟨p, z, t, ks, rfl, hm⟩, hq⟩ := hq
  cases r
  have hd : IsD H1 p := by
    have q := S1 p _ hm
    cases t with
    | false => obtain ⟨kvs, e, _⟩ := q; exact .inl ⟨kvs, fz_rd e⟩
    | true => obtain ⟨kvs, e, _⟩ := q; exact .inr ⟨kvs, fz_rd e⟩
  refine ⟨p, rfl, hd, ?_⟩
  refine q2 σ H1 σu M1 _ _ (rs.stp S st) S1 hq fun y H2 uy M2 st2 S2 ry hq2 => ?_
  obtain ⟨p', z', t', ks', e, hm3, hk, hq3⟩ := hq2
  cases e
  obtain ⟨o', hg, ho⟩ := dget_of S2 hm3 hk ry
  have cc := c.tr S (st.trans S st2)
  refine ⟨o', hg, ?_⟩
  rcases ho with ⟨rfl, hn⟩ | ⟨v', u', rfl, hs', rv⟩
  · rw [hn] at hq3
    exact cc.at_ S2 .non hq3
  · rw [hs'] at hq3
    exact cc.at_ S2 rv hq3
theorem se_isinst {t : String} {x z : Str} {a : Expr} {f : WE} {p p2 pos : Pos} (ht : tyOk t = true) (hx : x = "isinstance") (hz : z = Str.ofString t) (hg : Gl X x) (hm : X.mg x = none) (hg2 : Gl X z) (hm2 : X.mg z = none) (hs : isStar a = false) (h1 : SE1 X f a) :
    SE X (.ofE fun σ M Q => f σ M fun x M1 => isTyW x t M1 fun b M2 => Q (.bl b) M2) (.Call (.Name x p) [a, .Name z p2] [] pos) := by
  obtain ⟨t1, p1, q1⟩ := h1
  subst hx hz
  have bz : bootBuiltins (Str.ofString t) = some (.type t) := by
    have ht2 : t = "tuple" ∨ t = "str" ∨ t = "int" ∨ t = "bool" ∨ t = "list" := by
      unfold tyOk at ht
      simp only [Bool.or_eq_true, beq_iff_eq] at ht
      rcases ht with (((h | h) | h) | h) | h
      · exact .inl h
      · exact .inr (.inl h)
      · exact .inr (.inr (.inl h))
      · exact .inr (.inr (.inr (.inl h)))
      · exact .inr (.inr (.inr (.inr h)))
    rcases ht2 with rfl | rfl | rfl | rfl | rfl <;> decide +kernel
  have nz : Str.ofString t ≠ "__name__" ∧ (Str.ofString t == ("__debug__" : Str)) = false := by
    have ht2 : t = "tuple" ∨ t = "str" ∨ t = "int" ∨ t = "bool" ∨ t = "list" := by
      unfold tyOk at ht
      simp only [Bool.or_eq_true, beq_iff_eq] at ht
      rcases ht with (((h | h) | h) | h) | h
      · exact .inl h
      · exact .inr (.inl h)
      · exact .inr (.inr (.inl h))
      · exact .inr (.inr (.inr (.inl h)))
      · exact .inr (.inr (.inr (.inr h)))
    rcases ht2 with rfl | rfl | rfl | rfl | rfl <;> decide +kernel
  have pz : PE X (.Name (Str.ofString t) p2) (tC (.ty t)) := pe_bltn hg2 hm2 bz rfl nz.1 nz.2
  have pall : PA X [a, .Name (Str.ofString t) p2] (tCons t1 (tCons (tC (.ty t)) tNil)) := pa_cons p1 (pa_cons pz pa_nil) (star_cons hs)
  refine SE.ofE rfl ⟨_, pe_callB call_isi hg hm (by decide +kernel) pall (by decide +kernel) (by decide +kernel) (star_cons hs) rfl, fun σ H σu M Qu Q rs S hf c => ?_⟩
  refine q1 σ H σu M _ _ rs S hf fun v H1 u M1 st S1 r hq => ?_
  obtain ⟨ty, b, h1, h2, h3⟩ := isTy_of (Q := fun b H => Q (.bl b) H) ht ⟨u, M1, fun b M2 => Qu (.bl b) M2, S1, r, hq, fun b H' M' st' S' q' => c _ _ _ _ (st.trans S st') S' (.bl b) q'⟩
  exact ⟨v, .ty t, ty, .type t, b, rfl, .ty t, h1, h2, h3⟩

/-! ### what is walked -/
def ItOk (K : Kw) (H0 : Hp) (M0 : Hm) (J : It) (items : List U) (g : Hm → Prop) : Prop := ∀ (i : Nat) (H : Hp) (M : Hm), Stp H0 M0 H M → Sim K H M → g M →
  (∀ u, items[i]? = some u → J.go i H ∧ ∀ x H', J.yld i H x H' → Stp H M H' M ∧ Sim K H' M ∧ Rel K H' x u) ∧ (items.length = i → J.stop i H)
abbrev QI := List U → (Hm → Prop) → ((Hm → Prop) → Hm → Prop) → Hm → Prop
def EvI (K : Kw) (t : TI) (f : WI) : Prop := ∀ (σ : L2.St) (H : Hp) (σu : SU) (M : Hm) (Qu : QI) (R : It → Hp → Prop), RelS K H σ σu → Sim K H M → f σu M Qu →
  (∀ J H' items g ex M', Stp H M H' M' → Sim K H' M' → ItOk K H' M' J items g → g M' → ex = (fun P => P) → Qu items g ex M' → R J H') → t σ H R
def SI (X : Cx) (tg iter : Expr) (f : WI) : Prop := ∃ t, PI X tg iter t ∧ EvI (kwX X) t f
theorem it_list {K : Kw} {H0 : Hp} {M0 : Hm} {p : Addr} {us : List U} : ItOk K H0 M0 (Itl K p) us (fun M => M p = some (.lst us)) := fun i H M st S hm => by
  obtain ⟨vs, e, r⟩ := S p _ hm
  refine ⟨fun u hu => ?_, fun hl => ⟨vs, .inl (.inl e), by rw [r.length]; exact Nat.le_of_eq hl⟩⟩
  obtain ⟨v, ev, rv⟩ := r.get hu
  refine ⟨⟨vs, v, .inl (.inl e), ev⟩, fun x H' ⟨eH, hx⟩ => ?_⟩
  subst eH
  have e2 := hx vs (.inl (.inl e))
  rw [ev] at e2
  cases e2
  exact ⟨Stp.refl _ M, S, rv⟩
theorem it_rol {K : Kw} {H0 : Hp} {M0 : Hm} {p : Addr} {vs : List V} {us : List U} (S0 : Sim K H0 M0) (t : Rl K H0 p vs) (r0 : RelL K H0 vs us) : ItOk K H0 M0 (Itl K p) us (fun _ => True) := fun i H M st S _ => by
  have t1 := t.stp S0 st
  have r := r0.stp S0 st
  refine ⟨fun u hu => ?_, fun hl => ⟨vs, t1.sq, by rw [r.length]; exact Nat.le_of_eq hl⟩⟩
  obtain ⟨v, ev, rv⟩ := r.get hu
  refine ⟨⟨vs, v, t1.sq, ev⟩, fun x H' ⟨eH, hx⟩ => ?_⟩
  subst eH
  have e2 := hx vs t1.sq
  rw [ev] at e2
  cases e2
  exact ⟨Stp.refl _ M, S, rv⟩
theorem it_tup {K : Kw} {H0 : Hp} {M0 : Hm} {p : Addr} {vs : List V} {us : List U} (S0 : Sim K H0 M0) (t : Tp K H0 p vs) (r0 : RelL K H0 vs us) : ItOk K H0 M0 (Itt K p) us (fun _ => True) := fun i H M st S _ => by
  have t1 := t.stp S0 st
  have r := r0.stp S0 st
  refine ⟨fun u hu => ?_, fun hl => ⟨vs, t1.sq, by rw [r.length]; exact Nat.le_of_eq hl⟩⟩
  obtain ⟨v, ev, rv⟩ := r.get hu
  refine ⟨⟨vs, v, t1.sq, ev⟩, fun x H' ⟨eH, hx⟩ => ?_⟩
  subst eH
  have e2 := hx vs t1.sq
  rw [ev] at e2
  cases e2
  exact ⟨Stp.refl _ M, S, rv⟩
theorem it_tupD {K : Kw} {H0 : Hp} {M0 : Hm} {p : Addr} {vs : List V} {us : List U} (S0 : Sim K H0 M0) (t : Td K H0 p vs) (r0 : RelL K H0 vs us) : ItOk K H0 M0 (Itt K p) us (fun _ => True) := fun i H M st S _ => by
  have t1 := t.stp S0 st
  have r := r0.stp S0 st
  refine ⟨fun u hu => ?_, fun hl => ⟨vs, t1.sq, by rw [r.length]; exact Nat.le_of_eq hl⟩⟩
  obtain ⟨v, ev, rv⟩ := r.get hu
  refine ⟨⟨vs, v, t1.sq, ev⟩, fun x H' ⟨eH, hx⟩ => ?_⟩
  subst eH
  have e2 := hx vs t1.sq
  rw [ev] at e2
  cases e2
  exact ⟨Stp.refl _ M, S, rv⟩
theorem it_rng {K : Kw} {H0 : Hp} {M0 : Hm} {a : Int} {n : Nat} : ItOk K H0 M0 (Itr a n) ((List.range n).map fun i => U.int (a + (i : Nat))) (fun _ => True) := fun i H M st S _ => by
  refine ⟨fun u hu => ?_, fun hl => ?_⟩
  rotate_left
  · have hl2 : n = i := by simpa using hl
    exact Nat.le_of_eq hl2
  obtain ⟨h1, h2⟩ := List.getElem?_eq_some_iff.mp hu
  have h3 : i < n := by simpa using h1
  refine ⟨h3, fun x H' ⟨eH, hx⟩ => ?_⟩
  subst eH hx
  rw [← h2]
  refine ⟨Stp.refl _ M, S, ?_⟩
  simp only [List.getElem_map, List.getElem_range]
  exact .int _
theorem enumU_get {l : List U} {i : Nat} {u : U} (h : (enumU l)[i]? = some u) : ∃ w, l[i]? = some w ∧ u = .tup [.int (i : Nat), w] := by
  unfold enumU at h
  rw [List.getElem?_map, List.getElem?_zipIdx] at h
  cases q : l[i]? with
  | none => rw [q] at h; cases h
  | some w =>
    rw [q] at h
    simp only [Option.map_some, Option.some.injEq, Nat.zero_add] at h
    exact ⟨w, rfl, h.symm⟩
theorem enumU_len (l : List U) : (enumU l).length = l.length := by unfold enumU; rw [List.length_map, List.length_zipIdx]
theorem it_enL {K : Kw} {H0 : Hp} {M0 : Hm} {p : Addr} {us : List U} : ItOk K H0 M0 (Ite K p) (enumU us) (fun M => M p = some (.lst us)) := fun i H M st S hm => by
  obtain ⟨vs, e, r⟩ := S p _ hm
  refine ⟨fun u hu => ?_, fun hl => ⟨vs, .inl (.inl e), by rw [r.length]; rw [enumU_len] at hl; exact Nat.le_of_eq hl⟩⟩
  obtain ⟨w, hw, rfl⟩ := enumU_get hu
  obtain ⟨v, ev, rv⟩ := r.get hw
  refine ⟨⟨vs, v, .inl (.inl e), ev⟩, fun x H' ⟨T, y, ex, hT, eH, hy⟩ => ?_⟩
  subst ex eH
  have e2 := hy vs (.inl (.inl e))
  rw [ev] at e2
  cases e2
  exact ⟨Stp.newT S hT, S.newT hT, .tup upd_same (.cons (.int _) (.cons (rv.stp S (Stp.newT S hT)) .nil))⟩
theorem it_enR {K : Kw} {H0 : Hp} {M0 : Hm} {p : Addr} {vs : List V} {us : List U} (S0 : Sim K H0 M0) (t : Rl K H0 p vs) (r0 : RelL K H0 vs us) : ItOk K H0 M0 (Ite K p) (enumU us) (fun _ => True) := fun i H M st S _ => by
  have t1 := t.stp S0 st
  have r := r0.stp S0 st
  refine ⟨fun u hu => ?_, fun hl => ⟨vs, t1.sq, by rw [r.length]; rw [enumU_len] at hl; exact Nat.le_of_eq hl⟩⟩
  obtain ⟨w, hw, rfl⟩ := enumU_get hu
  obtain ⟨v, ev, rv⟩ := r.get hw
  refine ⟨⟨vs, v, t1.sq, ev⟩, fun x H' ⟨T, y, ex, hT, eH, hy⟩ => ?_⟩
  subst ex eH
  have e2 := hy vs t1.sq
  rw [ev] at e2
  cases e2
  exact ⟨Stp.newT S hT, S.newT hT, .tup upd_same (.cons (.int _) (.cons (rv.stp S (Stp.newT S hT)) .nil))⟩
theorem it_enT {K : Kw} {H0 : Hp} {M0 : Hm} {p : Addr} {vs : List V} {us : List U} (S0 : Sim K H0 M0) (t : Tp K H0 p vs) (r0 : RelL K H0 vs us) : ItOk K H0 M0 (IteT K p) (enumU us) (fun _ => True) := fun i H M st S _ => by
  have t1 := t.stp S0 st
  have r := r0.stp S0 st
  refine ⟨fun u hu => ?_, fun hl => ⟨vs, t1.sq, by rw [r.length]; rw [enumU_len] at hl; exact hl⟩⟩
  obtain ⟨w, hw, rfl⟩ := enumU_get hu
  obtain ⟨v, ev, rv⟩ := r.get hw
  refine ⟨⟨vs, v, t1.sq, ev⟩, fun x H' ⟨T, y, ex, hT, eH, hy⟩ => ?_⟩
  subst ex eH
  have e2 := hy vs t1.sq
  rw [ev] at e2
  cases e2
  exact ⟨Stp.newT S hT, S.newT hT, .tup upd_same (.cons (.int _) (.cons (rv.stp S (Stp.newT S hT)) .nil))⟩
theorem it_enTD {K : Kw} {H0 : Hp} {M0 : Hm} {p : Addr} {vs : List V} {us : List U} (S0 : Sim K H0 M0) (t : Td K H0 p vs) (r0 : RelL K H0 vs us) : ItOk K H0 M0 (IteT K p) (enumU us) (fun _ => True) := fun i H M st S _ => by
  have t1 := t.stp S0 st
  have r := r0.stp S0 st
  refine ⟨fun u hu => ?_, fun hl => ⟨vs, t1.sq, by rw [r.length]; rw [enumU_len] at hl; exact hl⟩⟩
  obtain ⟨w, hw, rfl⟩ := enumU_get hu
  obtain ⟨v, ev, rv⟩ := r.get hw
  refine ⟨⟨vs, v, t1.sq, ev⟩, fun x H' ⟨T, y, ex, hT, eH, hy⟩ => ?_⟩
  subst ex eH
  have e2 := hy vs t1.sq
  rw [ev] at e2
  cases e2
  exact ⟨Stp.newT S hT, S.newT hT, .tup upd_same (.cons (.int _) (.cons (rv.stp S (Stp.newT S hT)) .nil))⟩
theorem si_enum {x : Str} {p pos tpos : Pos} {elts : List Expr} {kk : Nat} {a : Expr} {f : WE} (hx : x = "enumerate") (hg : Gl X x) (hm : X.mg x = none) (hs : isStar a = false) (h : SE1 X f a) :
    SI X (.Tuple elts kk tpos) (.Call (.Name x p) [a] [] pos) (fun σ M Q => f σ M fun x M1 => seqI x M1 fun us g ex M2 => Q (enumU us) g ex M2) := by
  subst hx
  obtain ⟨t, pt, q⟩ := h
  refine ⟨_, pi_en hg hm (pa_cons pt pa_nil (star_cons hs)) (star_cons hs), fun σ H σu M Qu R rs S hf c => ?_⟩
  refine q σ H σu M _ _ rs S hf fun v H1 u M1 st S1 r hq => ?_
  unfold seqI at hq
  split at hq
  · cases r with
    | tup t rl => exact ⟨_, rfl, .inr ⟨⟨_, t.sq⟩, c _ _ _ _ _ _ st S1 (it_enT S1 t rl) trivial rfl hq⟩⟩
  · cases r with
    | rol t rl => exact ⟨_, rfl, .inl ⟨⟨_, t.sq⟩, c _ _ _ _ _ _ st S1 (it_enR S1 t rl) trivial rfl hq⟩⟩
  · cases r with
    | dtp t rl => exact ⟨_, rfl, .inr ⟨⟨_, t.sq⟩, c _ _ _ _ _ _ st S1 (it_enTD S1 t rl) trivial rfl hq⟩⟩
  · cases r
    obtain ⟨us, hm1, hq⟩ := hq
    obtain ⟨vs, e, rl⟩ := S1 _ _ hm1
    exact ⟨_, rfl, .inl ⟨⟨vs, .inl (.inl e)⟩, c _ _ _ _ _ _ st S1 it_enL hm1 rfl hq⟩⟩
  · exact hq.elim
/-- a list or a tuple (either is found when it is walked) -/
def iSq (K : Kw) (tl : TE) : TI := fun σ H R => tl σ H fun x H1 => ∃ a, x = .ref a ∧ (((∃ xs, SqL K H1 a xs) ∧ R (Itl K a) H1) ∨ ((∃ xs, SqT K H1 a xs) ∧ R (Itt K a) H1))
theorem pi_sq {tg l : Expr} {tl : TE} (hl : PE X l tl) : PI X tg l (iSq (kwX X) tl) := by
  refine ⟨fun pins s σ H R I h => ?_⟩
  refine thn (hl.run pins s σ H _ I h) fun v s1 ⟨x, H1, I1, r, q⟩ => ?_
  obtain ⟨a, rfl, q⟩ := q
  obtain rfl : v = Value.ref a := r
  rcases q with ⟨⟨xs, hx⟩, q⟩ | ⟨⟨xs, hx⟩, q⟩
  · obtain ⟨its, rv, p, hz⟩ := I1.list hx
    exact PySem.wpAny_pyIter_list p.isList (pi_one I1 _ (turn_list a _) ⟨_, Heap.get?_push_size _ rfl, rfl, rfl⟩ q)
  · obtain ⟨its, rv, p, hz⟩ := I1.tuple hx
    exact PySem.wpAny_pyIter_tuple (show s1.heap.IsTuple a its.toArray from p) (pi_one I1 _ (turn_tuple a _) ⟨_, Heap.get?_push_size _ rfl, rfl, rfl⟩ q)
theorem si_seq {tg l : Expr} {f : WE} (h : SE1 X f l) : SI X tg l (fun σ M Q => f σ M fun x M1 => seqI x M1 Q) := by
  obtain ⟨t, p, q⟩ := h
  refine ⟨_, pi_sq p, fun σ H σu M Qu R rs S hf c => ?_⟩
  refine q σ H σu M _ _ rs S hf fun v H1 u M1 st S1 r hq => ?_
  unfold seqI at hq
  split at hq
  · cases r with
    | tup t rl => exact ⟨_, rfl, .inr ⟨⟨_, t.sq⟩, c _ _ _ _ _ _ st S1 (it_tup S1 t rl) trivial rfl hq⟩⟩
  · cases r with
    | rol t rl => exact ⟨_, rfl, .inl ⟨⟨_, t.sq⟩, c _ _ _ _ _ _ st S1 (it_rol S1 t rl) trivial rfl hq⟩⟩
  · cases r with
    | dtp t rl => exact ⟨_, rfl, .inr ⟨⟨_, t.sq⟩, c _ _ _ _ _ _ st S1 (it_tupD S1 t rl) trivial rfl hq⟩⟩
  · obtain ⟨us, e, hq⟩ := hq
    cases r
    obtain ⟨vs, e2, _⟩ := S1 _ _ e
    exact ⟨_, rfl, .inl ⟨⟨_, .inl (.inl e2)⟩, c _ _ _ _ _ _ st S1 it_list e rfl hq⟩⟩
  · exact hq.elim
theorem it_rev {K : Kw} {H0 : Hp} {M0 : Hm} {p : Addr} {us : List U} : ItOk K H0 M0 (Itv K p us.length) us.reverse (fun M => M p = some (.lst us)) := fun i H M st S hm => by
  obtain ⟨vs, e, r⟩ := S p _ hm
  refine ⟨fun u hu => ?_, fun hl => by
    rw [List.length_reverse] at hl
    exact Nat.le_of_eq hl⟩
  obtain ⟨h1, h2⟩ := List.getElem?_eq_some_iff.mp hu
  rw [List.length_reverse] at h1
  have hu' : us[us.length - 1 - i]? = some u := by rw [← List.getElem?_reverse h1]; exact hu
  obtain ⟨v, ev, rv⟩ := r.get hu'
  refine ⟨⟨h1, vs, v, .inl (.inl e), ev⟩, fun x H' ⟨eH, hx⟩ => ?_⟩
  subst eH
  have e2 := hx vs (.inl (.inl e))
  rw [ev] at e2
  cases e2
  exact ⟨Stp.refl _ M, S, rv⟩
theorem it_revT {K : Kw} {H0 : Hp} {M0 : Hm} {p : Addr} {vs : List V} {us : List U} (S0 : Sim K H0 M0) (t : Tp K H0 p vs) (r0 : RelL K H0 vs us) : ItOk K H0 M0 (RT.ItvT K p us.length) us.reverse (fun _ => True) := fun i H M st S _ => by
  have t1 := t.stp S0 st
  have r := r0.stp S0 st
  refine ⟨fun u hu => ?_, fun hl => by
    rw [List.length_reverse] at hl
    exact Nat.le_of_eq hl⟩
  obtain ⟨h1, h2⟩ := List.getElem?_eq_some_iff.mp hu
  rw [List.length_reverse] at h1
  have hu' : us[us.length - 1 - i]? = some u := by rw [← List.getElem?_reverse h1]; exact hu
  obtain ⟨v, ev, rv⟩ := r.get hu'
  refine ⟨⟨h1, vs, v, t1.sq, ev⟩, fun x H' ⟨eH, hx⟩ => ?_⟩
  subst eH
  have e2 := hx vs t1.sq
  rw [ev] at e2
  cases e2
  exact ⟨Stp.refl _ M, S, rv⟩
theorem it_revD {K : Kw} {H0 : Hp} {M0 : Hm} {p : Addr} {vs : List V} {us : List U} (S0 : Sim K H0 M0) (t : Td K H0 p vs) (r0 : RelL K H0 vs us) : ItOk K H0 M0 (RT.ItvT K p us.length) us.reverse (fun _ => True) := fun i H M st S _ => by
  have t1 := t.stp S0 st
  have r := r0.stp S0 st
  refine ⟨fun u hu => ?_, fun hl => by
    rw [List.length_reverse] at hl
    exact Nat.le_of_eq hl⟩
  obtain ⟨h1, h2⟩ := List.getElem?_eq_some_iff.mp hu
  rw [List.length_reverse] at h1
  have hu' : us[us.length - 1 - i]? = some u := by rw [← List.getElem?_reverse h1]; exact hu
  obtain ⟨v, ev, rv⟩ := r.get hu'
  refine ⟨⟨h1, vs, v, t1.sq, ev⟩, fun x H' ⟨eH, hx⟩ => ?_⟩
  subst eH
  have e2 := hx vs t1.sq
  rw [ev] at e2
  cases e2
  exact ⟨Stp.refl _ M, S, rv⟩
theorem si_rev {tg a : Expr} {f : WE} {x : Str} {p pos : Pos} (hx : x = "reversed") (hg : Gl X x) (hm : X.mg x = none) (hs : isStar a = false) (h : SE1 X f a) :
    SI X tg (.Call (.Name x p) [a] [] pos) (fun σ M Q => f σ M fun x M1 => revI x M1 Q) := by
  subst hx
  obtain ⟨t, pt, q⟩ := h
  refine ⟨_, RT.pi_revA hg hm pt (star_cons hs), fun σ H σu M Qu R rs S hf c => ?_⟩
  refine q σ H σu M _ _ rs S hf fun v H1 u M1 st S1 r hq => ?_
  unfold revI at hq
  split at hq
  · cases r with
    | tup t rl => exact ⟨_, _, rfl, .inr ⟨t.sq, by rw [rl.length]; exact c _ _ _ _ _ _ st S1 (it_revT S1 t rl) trivial rfl hq⟩⟩
  · cases r with
    | dtp t rl => exact ⟨_, _, rfl, .inr ⟨t.sq, by rw [rl.length]; exact c _ _ _ _ _ _ st S1 (it_revD S1 t rl) trivial rfl hq⟩⟩
  · obtain ⟨us, e, hq⟩ := hq
    cases r
    obtain ⟨vs, e2, rl⟩ := S1 _ _ e
    exact ⟨_, _, rfl, .inl ⟨.inl (.inl e2), by rw [rl.length]; exact c _ _ _ _ _ _ st S1 it_rev e rfl hq⟩⟩
  · exact hq.elim
theorem si_rng {tg a : Expr} {f : WE} {x : Str} {p pos : Pos} (hx : x = "range") (hg : Gl X x) (hm : X.mg x = none) (hs : isStar a = false) (h : SE1 X f a) :
    SI X tg (.Call (.Name x p) [a] [] pos) (fun σ M Q => f σ M fun x M1 => ∃ n, x = .int n ∧ n ≤ LIM ∧ -LIM ≤ n ∧ Q (rngU 0 n) (fun _ => True) (fun P => P) M1) := by
  subst hx
  obtain ⟨t, pt, q⟩ := h
  refine ⟨_, pi_range1 hg hm (pa_cons pt pa_nil (star_cons hs)) (star_cons hs), fun σ H σu M Qu R rs S hf c => ?_⟩
  refine q σ H σu M _ _ rs S hf fun v H1 u M1 st S1 r hq => ?_
  obtain ⟨n, rfl, h1, h2, hq⟩ := hq
  cases r
  have hl : LIM = 100000 := rfl
  refine ⟨n, rfl, by omega, by omega, ?_⟩
  have e : rngU 0 n = (List.range n.toNat).map fun i => U.int (0 + (i : Nat)) := by
    unfold rngU
    rw [Int.sub_zero]
  rw [e] at hq
  exact c _ _ _ _ _ _ st S1 it_rng trivial rfl hq
theorem si_rng2 {tg a b : Expr} {f g : WE} {x : Str} {p pos : Pos} (hx : x = "range") (hg : Gl X x) (hm : X.mg x = none) (hs : isStar a = false) (hs2 : isStar b = false) (h : SE1 X f a) (h2 : SE1 X g b) :
    SI X tg (.Call (.Name x p) [a, b] [] pos) (fun σ M Q => f σ M fun x M1 => g σ M1 fun y M2 => ∃ m n, x = .int m ∧ y = .int n ∧ -LIM ≤ m ∧ m ≤ LIM ∧ n ≤ LIM ∧ -LIM ≤ n ∧ Q (rngU m n) (fun _ => True) (fun P => P) M2) := by
  subst hx
  obtain ⟨t, pt, q⟩ := h
  obtain ⟨t2, pt2, q2⟩ := h2
  have st2 : ∀ env : Env, starEach [b] env = [(false, eval b env)] := fun env => star_cons hs2
  refine ⟨_, pi_range2 hg hm (pa_cons pt (pa_cons pt2 pa_nil (star_cons hs2)) (star_cons hs)) (by rw [star_cons hs, star_cons hs2] <;> rfl) (by rw [star_cons hs2] <;> rfl), fun σ H σu M Qu R rs S hf c => ?_⟩
  refine q σ H σu M _ _ rs S hf fun v H1 u M1 st S1 r hq => ?_
  refine q2 σ H1 σu M1 _ _ (rs.stp S st) S1 hq fun v2 H2 u2 M2 st2 S2 r2 hq2 => ?_
  obtain ⟨m, n, rfl, rfl, h1, h2, h3, h4, hq⟩ := hq2
  cases r
  cases r2
  have hl : LIM = 100000 := rfl
  refine ⟨m, n, rfl, by omega, ?_⟩
  exact c _ _ _ _ _ _ (st.trans S st2) S2 it_rng trivial rfl hq
end
end Pl

set_option maxHeartbeats 4000000
/-! instances: fields, methods, making; setdefault; list(range(..)); a module's constants -/
namespace Pl
open PySem L2
theorem RelF.get {K : Kw} {H : Hp} {f : Str} {u : U} : ∀ {vs : List (Str × V)} {fs : List (Str × U)}, RelF K H vs fs → fs.lookup f = some u → ∃ y, vs.lookup f = some y ∧ Rel K H y u ∧ (f, y) ∈ vs
  | _, _, .nil, e => by cases e
  | _, _, .cons (a := p) (b := q) (l₁ := r) (l₂ := rest) a b, e => by
    obtain ⟨g, v⟩ := p
    obtain ⟨g', u'⟩ := q
    obtain ⟨rfl, rv⟩ := (show g = g' ∧ Rel K H v u' from a)
    cases hb : (f == g) with
    | true =>
      have e1 : List.lookup f ((g, u') :: rest) = some u' := by simp only [List.lookup, hb]
      rw [e1] at e
      cases e
      have := beq_iff_eq.mp hb
      subst this
      exact ⟨v, by simp only [List.lookup, hb], rv, List.mem_cons_self⟩
    | false =>
      have e1 : List.lookup f ((g, u') :: rest) = List.lookup f rest := by simp only [List.lookup, hb]
      rw [e1] at e
      obtain ⟨y, h1, h2, h3⟩ := RelF.get b e
      exact ⟨y, by simp only [List.lookup, hb]; exact h1, h2, List.mem_cons_of_mem _ h3⟩
theorem RelF.no {K : Kw} {H : Hp} {f : Str} : ∀ {vs : List (Str × V)} {fs : List (Str × U)}, RelF K H vs fs → fs.lookup f = none → vs.lookup f = none
  | _, _, .nil, e => rfl
  | _, _, .cons (a := p) (b := q) (l₁ := r) (l₂ := rest) a b, e => by
    obtain ⟨g, v⟩ := p
    obtain ⟨g', u'⟩ := q
    obtain ⟨rfl, rv⟩ := (show g = g' ∧ Rel K H v u' from a)
    cases hb : (f == g) with
    | true =>
      have e1 : List.lookup f ((g, u') :: rest) = some u' := by simp only [List.lookup, hb]
      rw [e1] at e
      cases e
    | false =>
      have e1 : List.lookup f ((g, u') :: rest) = List.lookup f rest := by simp only [List.lookup, hb]
      rw [e1] at e
      simp only [List.lookup, hb]
      exact RelF.no b e
theorem RelF.put {K : Kw} {H : Hp} {f : Str} {v : V} {u : U} (r : Rel K H v u) : ∀ {vs : List (Str × V)} {fs : List (Str × U)}, RelF K H vs fs → RelF K H (putF f v vs) (fput f u fs)
  | _, _, .nil => .cons ⟨rfl, r⟩ .nil
  | _, _, .cons (a := p) (b := q) (l₁ := t) (l₂ := rest) a b => by
    obtain ⟨g, w⟩ := p
    obtain ⟨g', u'⟩ := q
    obtain ⟨rfl, rv⟩ := (show g = g' ∧ Rel K H w u' from a)
    unfold putF fput
    by_cases h : g = f
    · rw [if_pos h, if_pos h]
      exact .cons ⟨rfl, r⟩ b
    · rw [if_neg h, if_neg h]
      exact .cons ⟨rfl, rv⟩ (RelF.put r b)
theorem mem_putF {f : Str} {v : V} {P : Str → Prop} (hf : P f) : ∀ {vs : List (Str × V)}, (∀ x ∈ vs, P x.1) → ∀ x ∈ putF f v vs, P x.1
  | [], _, x, hx => by
    rw [show putF f v [] = [(f, v)] from rfl, List.mem_singleton] at hx
    rw [hx]
    exact hf
  | (g, y) :: r, h, x, hx => by
    unfold putF at hx
    by_cases e : g = f
    · rw [if_pos e] at hx
      rcases List.mem_cons.mp hx with rfl | hx
      · exact h (g, y) List.mem_cons_self
      · exact h x (List.mem_cons_of_mem _ hx)
    · rw [if_neg e] at hx
      rcases List.mem_cons.mp hx with rfl | hx
      · exact h (g, y) List.mem_cons_self
      · exact mem_putF hf (fun z hz => h z (List.mem_cons_of_mem _ hz)) x hx
theorem RelF.len {K : Kw} {H : Hp} {vs : List (Str × V)} {fs : List (Str × U)} (h : RelF K H vs fs) : vs.length = fs.length := Paired.length h
section
variable {X : Cx}
theorem se_fld {o : Expr} {f : Str} {g : WE} {pos : Pos} (hb : notSup o = true) (h1 : SE1 X g o) :
    SE1 X (fun σ M Q => g σ M fun x M1 => ∃ p c fs v, x = .ref p ∧ M1 p = some (.obj c fs) ∧ fs.lookup f = some v ∧ Q v M1) (.Attribute o f pos) := by
  obtain ⟨t1, p1, q1⟩ := h1
  refine ⟨_, pe_fld p1 (base_of hb), fun σ H σu M Qu Q rs S hf c => ?_⟩
  refine q1 σ H σu M _ _ rs S hf fun v H1 u M1 st S1 r hq => ?_
  obtain ⟨p, cn, fs, w, rfl, hm, hl, hq⟩ := hq
  obtain ⟨dx, vs, e, rf, cl, na⟩ := S1 _ _ hm
  cases r
  obtain ⟨y, hy, ry, mem⟩ := RelF.get rf hl
  exact ⟨p, cad (kwX X) cn, dx, vs, y, rfl, e, cl, na _ mem, hy, (c.tr S st).at_ S1 ry hq⟩
theorem eval_meth {env : Env} {o : Expr} {m : Str} {apos pos : Pos} {args : List Expr} (hb : notSup o = true) (hall : args.all (fun e => !isStar e) = true) (hl : args.length < 10) (hline : (apos.endLine == pos.line) = true) :
    eval (.Call (.Attribute o m apos) args [] pos) env = (do
      let ov ← eval o env
      standAt apos.atName
      let (f, first) ← holding [ov] (getMethod ov m (do return (← importBound o env).getD true))
      callWith pos f first (backTo pos (starEach args env)) (backToKw pos (keywordEach [] env))) := by
  rw [arm_eval_Call, base_of hb]
  have hform : methodCallForm (args.length + ([] : List Keyword).length) (backTo pos (starEach args env)) (backToKw pos (keywordEach [] env)) = true := few_args hall hl
  have hpos : methodCallPos true o env apos pos = pure pos := by unfold methodCallPos; simp [hline]
  unfold methodCall
  rw [hform, hpos]
  simp only [pure_bind]
  rfl
theorem se_meth {k : Nat} {f : Addr} {fd : FuncData} {ps : List Str} {m cn : Str} {o : Expr} {es : List Expr} {g : WE} {gl : WL} {c : List U → Hm → QU → Prop} {apos pos : Pos} (F : FnOk X.prog X.w (kwX X) X.mg X.base CX0 k f fd ps (spOf (kwX X) c)) (hr : Room k X.A) (cl : Cls (kwX X) (cad (kwX X) cn)) (hm : Meth (kwX X) (cad (kwX X) cn) m f)
    (hb : Binds (kwX X) fd ps []) (hs : es.all (fun e => !isStar e) = true) (hl : es.length < 10) (hline : (apos.endLine == pos.line) = true) (hn : notSup o = true) (h1 : SE1 X g o) (h : SA X gl es) (hg0 : es = [] → gl = fun _ M Q => Q [] M) :
    SE1 X (fun σ M Q => g σ M fun x M1 => (∃ p fs, x = .ref p ∧ M1 p = some (.obj cn fs) ∧ fs.lookup m = none) ∧ gl σ M1 fun xs M2 => c (x :: xs) M2 Q) (.Call (.Attribute o m apos) es [] pos) := by
  obtain ⟨t1, p1, q1⟩ := h1
  obtain ⟨t, pt, q⟩ := h
  cases es with
  | nil =>
    rw [hg0 rfl]
    refine ⟨_, pe_meth0 p1 cl hm F hr hb .nil pass0 (eval_meth hn hs hl hline), fun σ H σu M Qu Q rs S hf ct => ?_⟩
    refine q1 σ H σu M _ _ rs S hf fun v H1 u M1 st S1 r hq => ?_
    obtain ⟨⟨p, fs, rfl, e, lk⟩, hq⟩ := hq
    obtain ⟨dx, vs, e1, rf, _, _⟩ := S1 _ _ e
    cases r
    exact ⟨p, dx, vs, rfl, e1, rf.no lk, [.ref p], M1, Qu, S1, .cons (.ref p) .nil, hq, ct.tr S st⟩
  | cons e es =>
    have hs2 : isStar e = false ∧ es.all (fun e => !isStar e) = true := by
      rw [List.all_cons, Bool.and_eq_true] at hs
      exact ⟨by simpa using hs.1, hs.2⟩
    refine ⟨_, pe_meth p1 cl hm F hr hb .nil pass0 pt (star_cons hs2.1) (star_plain hs2.2) (eval_meth hn hs hl hline), fun σ H σu M Qu Q rs S hf ct => ?_⟩
    refine q1 σ H σu M _ _ rs S hf fun v H1 u M1 st S1 r hq => ?_
    obtain ⟨⟨p, fs, rfl, e, lk⟩, hq⟩ := hq
    obtain ⟨dx, vs, e1, rf, _, _⟩ := S1 _ _ e
    cases r
    refine ⟨p, dx, vs, rfl, e1, rf.no lk, ?_⟩
    refine q σ H1 σu M1 _ _ (rs.stp S st) S1 hq fun vs H2 us M2 st2 S2 rl hq2 => ?_
    rw [List.append_nil]
    exact ⟨.ref p :: us, M2, Qu, S2, .cons (.ref p) rl, hq2, ct.tr S (st.trans S st2)⟩
theorem new_obj {K : Kw} {H : Hp} {M : Hm} (S : Sim K H M) {cn : Str} (cl : Cls K (cad K cn)) {x dx : Addr} (hx : H x = none) (hd : H dx = none) (ne : dx ≠ x) :
    Stp H M (upd (upd H dx (.own x)) x (.ins (cad K cn) dx [])) (um M x (.obj cn [])) ∧ Sim K (upd (upd H dx (.own x)) x (.ins (cad K cn) dx [])) (um M x (.obj cn [])) := by
  have s1 : Stp H M (upd H dx (.own x)) M := Stp.newT S hd
  have S1 : Sim K (upd H dx (.own x)) M := S.to s1 fun a o e => .inl ⟨e, upd_ne fun z => by
    have q := S.fr hd
    rw [z, q] at e
    cases e⟩
  have h2 : upd H dx (.own x) x = none := by rw [upd_ne (Ne.symm ne)]; exact hx
  exact ⟨s1.trans S (Stp.new S1 h2), S1.new (m := .obj cn []) h2 ⟨dx, [], upd_same, .nil, cl, fun z hz => nomatch hz⟩⟩
theorem ev_make {k : List U → Hm → QU → Prop} {cn : Str} {g : WL} {t : TA} (cl : Cls (kwX X) (cad (kwX X) cn)) (q : EvL (kwX X) t g) :
    EvE (kwX X) (fun σ H Q => t σ H fun vs H1 => ∀ x dx, H1 x = none → H1 dx = none → dx ≠ x → CRs (kwX X) k (.ref x :: (vs ++ [])) (upd (upd H1 dx (.own x)) x (.ins (cad (kwX X) cn) dx [])) (fun v H2 => v = .non ∧ Q (.ref x) H2))
      (fun σ M Q => g σ M fun xs M1 => ∀ p, M1 p = none → k (.ref p :: xs) (um M1 p (.obj cn [])) fun u M2 => u = .non ∧ Q (.ref p) M2) := fun σ H σu M Qu Q rs S hf ct => by
  refine q σ H σu M _ _ rs S hf fun vs H1 us M1 st S1 r1 hq x dx hx hd ne => ?_
  obtain ⟨s2, S2⟩ := new_obj S1 cl hx hd ne
  rw [List.append_nil]
  refine ⟨.ref x :: us, um M1 x (.obj cn []), _, S2, .cons (.ref x) (r1.stp S1 s2), hq x (S1.fr hx), fun v H3 u M3 s3 S3 rv hq3 => ?_⟩
  obtain ⟨rfl, hq3⟩ := hq3
  cases rv
  exact ⟨rfl, ct _ _ (.ref x) M3 ((st.trans S s2).trans S s3) S3 (.ref x) hq3⟩
theorem se_make {k : Nat} {f : Addr} {fd : FuncData} {ps : List Str} {x : Str} {es : List Expr} {gl : WL} {c : List U → Hm → QU → Prop} {p pos : Pos} (Mk_ : Mk (kwX X) (cad (kwX X) x) f) (F : FnOk X.prog X.w (kwX X) X.mg X.base CX0 k f fd ps (spOf (kwX X) c)) (hr : Room (k + 1) X.A) (hg : Gl X x) (hm : X.mg x = some (.ref (cad (kwX X) x)))
    (cl : Cls (kwX X) (cad (kwX X) x)) (hb : Binds (kwX X) fd ps []) (hdb : (x == ("__debug__" : Str)) = false) (hs : es.all (fun e => !isStar e) = true) (h : SA X gl es) (hg0 : es = [] → gl = fun _ M Q => Q [] M) :
    SE1 X (fun σ M Q => gl σ M fun xs M1 => ∀ p, M1 p = none → c (.ref p :: xs) (um M1 p (.obj x [])) fun u M2 => u = .non ∧ Q (.ref p) M2) (.Call (.Name x p) es [] pos) := by
  obtain ⟨t, pt, q⟩ := h
  cases es with
  | nil =>
    rw [hg0 rfl]
    exact ⟨_, pe_make0 Mk_ F hr hg hm hb .nil pass0 hdb, ev_make cl (fun σ H σu M Qu Q rs S hf ct => ct _ _ _ _ (Stp.refl H M) S .nil hf)⟩
  | cons e es =>
    have hs2 : isStar e = false ∧ es.all (fun e => !isStar e) = true := by
      rw [List.all_cons, Bool.and_eq_true] at hs
      exact ⟨by simpa using hs.1, hs.2⟩
    exact ⟨_, pe_make Mk_ F hr hg hm hb .nil pass0 pt hdb (star_cons hs2.1) (star_plain hs2.2), ev_make cl q⟩
theorem se_prop {k : Nat} {pa f : Addr} {fd : FuncData} {ps : List Str} {m cn : Str} {o : Expr} {g : WE} {c : List U → Hm → QU → Prop} {pos : Pos} (F : FnOk X.prog X.w (kwX X) X.mg X.base CX0 k f fd ps (spOf (kwX X) c)) (hr : Room (k + 1) X.A) (cl : Cls (kwX X) (cad (kwX X) cn)) (hp : PropOf (kwX X) (cad (kwX X) cn) m pa f)
    (hb : Binds (kwX X) fd ps []) (hn : notSup o = true) (h1 : SE1 X g o) :
    SE1 X (fun σ M Q => g σ M fun x M1 => (∃ p fs, x = .ref p ∧ M1 p = some (.obj cn fs)) ∧ c [x] M1 Q) (.Attribute o m pos) := by
  obtain ⟨t1, p1, q1⟩ := h1
  refine ⟨_, pe_prop p1 cl hp F hr hb .nil pass0 (base_of hn), fun σ H σu M Qu Q rs S hf ct => ?_⟩
  refine q1 σ H σu M _ _ rs S hf fun v H1 u M1 st S1 r hq => ?_
  obtain ⟨⟨p, fs, rfl, e⟩, hq⟩ := hq
  obtain ⟨dx, vs, e1, rf, _, _⟩ := S1 _ _ e
  cases r
  exact ⟨p, dx, vs, rfl, e1, [.ref p], M1, Qu, S1, .cons (.ref p) .nil, hq, ct.tr S st⟩
theorem se_gl {x : Str} {v : V} {u : U} {w : Value} {p : Pos} (hg : Gl X x) (hm : X.mg x = some w) (r : RelV v w) (ru : ∀ H, Rel (kwX X) H v u) (hdb : (x == ("__debug__" : Str)) = false) : SE1 X (fun _ M Q => Q u M) (.Name x p) :=
  ⟨_, pe_glob hg hm r hdb, fun _ H _ _ _ _ _ S q c => c.at_ S (ru H) q⟩
theorem se_setdef {o e d : Expr} {f g h : WE} {apos pos : Pos} (hs : isStar e = false) (hs2 : isStar d = false) (hline : (apos.endLine == pos.line) = true) (hb : notSup o = true) (h1 : SE1 X f o) (h2 : SE1 X g e) (h3 : SE1 X h d) :
    SE1 X (fun σ M Q => f σ M fun x M1 => isDW x M1 ∧ g σ M1 fun y M2 => h σ M2 fun v M3 => setdefW x y v M3 Q) (.Call (.Attribute o "setdefault" apos) [e, d] [] pos) := by
  obtain ⟨t1, p1, q1⟩ := h1
  obtain ⟨t2, p2, q2⟩ := h2
  obtain ⟨t3, p3, q3⟩ := h3
  have hall : [e, d].all (fun e => !isStar e) = true := by simp [hs, hs2]
  refine ⟨_, pe_dsetd p1 p2 p3 ⟨base_of hb, few_args hall (by simp), hline, by rw [star_cons hs, star_cons hs2]; rfl⟩, fun σ H σu M Qu Q rs S hf c => ?_⟩
  refine q1 σ H σu M _ _ rs S hf fun v H1 u M1 st S1 r hq => ?_
  obtain ⟨⟨p, z, t, ks, rfl, hm⟩, hq⟩ := hq
  cases r
  have hd : IsD H1 p := by
    have q := S1 p _ hm
    cases t with
    | false => obtain ⟨kvs, e, _⟩ := q; exact .inl ⟨kvs, fz_rd e⟩
    | true => obtain ⟨kvs, e, _⟩ := q; exact .inr ⟨kvs, fz_rd e⟩
  refine ⟨p, rfl, hd, ?_⟩
  refine q2 σ H1 σu M1 _ _ (rs.stp S st) S1 hq fun y H2 uy M2 st2 S2 ry hq2 => ?_
  refine q3 σ H2 σu M2 _ _ (rs.stp S (st.trans S st2)) S2 hq2 fun w H3 uw M3 st3 S3 rw' hq3 => ?_
  obtain ⟨p', ks', e, hm3, hk, hl, hq3⟩ := hq3
  cases e
  have cc := c.tr S ((st.trans S st2).trans S st3)
  obtain ⟨kvs, e3, rk⟩ := S3 _ _ hm3
  have e3 : H3 p = some (.dK kvs) := e3
  obtain ⟨key, e1, e2⟩ := isKey_of hk (ry.stp S2 st3)
  refine ⟨kvs, key, e3, e2, by rw [rk.len]; exact lt_line hl, fun v hv => ?_, fun hv => ?_⟩
  · rcases rk.find key with ⟨h1, h2⟩ | ⟨v', u', h1, h2, h3⟩
    · rw [h1] at hv; cases hv
    · rw [h1] at hv
      cases hv
      rw [e1, h2] at hq3
      exact cc.at_ S3 h3 hq3
  · rcases rk.find key with ⟨h1, h2⟩ | ⟨v', u', h1, h2, h3⟩
    · rw [e1, h2] at hq3
      have st4 : Stp H3 M3 (upd H3 p (.dK (putK kvs key w))) (um M3 p (.dct false false (dput ks' (keyU key) uw))) := Stp.mut hm3
      refine cc _ _ uw _ st4 (S3.mut (m := .dct false false (dput ks' (keyU key) uw)) hm3 rfl ⟨_, upd_same, ?_⟩) (rw'.stp S3 st4) hq3
      exact RelK.put (Paired.mapR rk fun p q x => ⟨x.1, x.2.stp S3 st4⟩) key (rw'.stp S3 st4)
    · rw [h1] at hv; cases hv
theorem relL_strs {K : Kw} {H : Hp} : ∀ {ns : List Str} {vs : List V}, RelL K H vs (ns.map U.str) → vs = ns.map V.str
  | [], vs, h => by cases h; rfl
  | n :: ns, vs, h => by
    cases h with
    | cons a b => cases a; rw [relL_strs b]; rfl
def rTidx (K : Kw) : V → List V → Hp → VK → Prop := fun x xs H Q => ∃ p, ∃ ys : List Str, ∃ z j, x = .ref p ∧ xs = [.str z] ∧ SqT K H p (ys.map V.str) ∧ ys[j]? = some z ∧ (∀ m, m < j → ys[m]? ≠ some z) ∧ Q (.int (j : Nat)) H
theorem se_tidx {o e : Expr} {f g : WE} {apos pos : Pos} (hs : isStar e = false) (hline : (apos.endLine == pos.line) = true) (hb : notSup o = true) (h1 : SE1 X f o) (h2 : SE1 X g e) :
    SE1 X (fun σ M Q => f σ M fun x M1 => (∃ l, x = .dtp l) ∧ g σ M1 fun y M2 => tidxW x y M2 Q) (.Call (.Attribute o "index" apos) [e] [] pos) := by
  obtain ⟨t1, p1, q1⟩ := h1
  obtain ⟨t2, p2, q2⟩ := h2
  have pa := pa_cons p2 (pa_nil (X := X)) (star_cons hs)
  refine ⟨fun σ H Q => t1 σ H fun x H1 => (∃ a vs, x = .ref a ∧ Td (kwX X) H1 a vs) ∧ (tCons t2 tNil) σ H1 fun xs H2 => rTidx (kwX X) x xs H2 Q,
    ⟨fun pins s σ H Q I h => ?_⟩, fun σ H σu M Qu Q rs S hf c => ?_⟩
  · refine wpAny_Call_method_late (base_of hb) (few_args (by simp [hs]) (by simp)) hline rfl (thn (p1.run pins s σ H _ I h) fun v s1 ⟨x, H1, I1, r1, ⟨a, vs, ex, td⟩, q⟩ => ?_)
    subst ex
    obtain rfl : v = Value.ref a := r1
    obtain ⟨ob, eo, hd, _⟩ := td
    obtain ⟨hg, hz, its, rv, ho⟩ := (show ObjOk X.prog X.w H1 s1.heap a (.frz ob (.tup vs)) from I1.hok a _ eo)
    refine ⟨"tuple", "tuple.index", PySem.F.plainAttrs_tuple, PySem.F.slot_tuple_index, PySem.F.type_tuple_index, ?_, fun b e => ?_, ?_⟩
    · obtain ⟨o2, h2, h3, _⟩ := ho
      exact ⟨o2, h2, h3⟩
    · cases e
      exact ⟨ob, hg, hd⟩
    · have hA := pa.run pos pins s1 σ H1 _ I1 q
      rw [star_cons hs] at hA ⊢
      refine Calls.callWith_builtin (by rfl) (Calls.evalArgs_plain ?_)
      exact thn hA fun us s2 ⟨vs, H2, I2, r2, q2⟩ => mt_tup_index pins s2 σ H2 (.ref a) vs (.ref a) us Q I2 rfl r2 q2
  · refine q1 σ H σu M _ _ rs S hf fun v H1 u M1 st S1 r hq => ?_
    obtain ⟨⟨l, rfl⟩, hq⟩ := hq
    cases r with
    | dtp td rl =>
      refine ⟨⟨_, _, rfl, td⟩, ?_⟩
      refine q2 σ H1 σu M1 _ _ (rs.stp S st) S1 hq fun y H2 uy M2 st2 S2 ry hq2 => ?_
      obtain ⟨ys, z, j, e1, rfl, h3, h4, hq2⟩ := hq2
      cases e1
      cases ry
      have rl2 := relL_strs (rl.stp S1 st2)
      subst rl2
      exact ⟨_, ys, z, j, rfl, rfl, (td.stp S1 st2).sq, h3, h4, (c.tr S (st.trans S st2)).at_ S2 (.int _) hq2⟩
theorem rel_rg {K : Kw} {H : Hp} (a b : Int) : RelL K H (rgV a b) (rngU a b) := by
  unfold rgV rngU
  generalize List.range (b - a).toNat = l
  induction l with
  | nil => exact .nil
  | cons i l ih => exact .cons (.int _) ih
theorem rg_ok {a b : Int} (h1 : b ≤ LIM) (h2 : -LIM ≤ b) (h3 : a ≤ LIM) (h4 : -LIM ≤ a) : RgOk a b := by
  unfold LIM at *
  refine ⟨by omega, by omega, by omega, by omega, by omega⟩
/-- list(range(b)), tuple(range(b)) -/
theorem se_lrng1 {t : Bool} {b : Expr} {g : WE} {x y : Str} {p p2 pos pos2 : Pos} (hc : X.calm = true) (hx : x = if t = true then ("tuple" : Str) else ("list" : Str)) (hy : y = "range") (hg : Gl X x) (hm : X.mg x = none) (hg2 : Gl X y) (hm2 : X.mg y = none) (hs : isStar b = false) (h : SE1 X g b) :
    SE1 X (fun σ M Q => g σ M fun y M2 => ∃ n, y = .int n ∧ n ≤ LIM ∧ -LIM ≤ n ∧ (0 : Int) ≤ LIM ∧ -LIM ≤ (0 : Int) ∧ if t = true then Q (.tup (rngU 0 n)) M2 else ∀ p, M2 p = none → Q (.ref p) (um M2 p (.lst (rngU 0 n))))
      (.Call (.Name x p) [.Call (.Name y p2) [b] [] pos2] [] pos) := by
  obtain ⟨t1, p1, q1⟩ := h
  subst hy
  have pr := prg_1 (p := p2) (pos := pos2) hg2 hm2 p1 (star_cons hs)
  cases t with
  | true =>
    subst hx
    refine ⟨_, pe_tupRg hc hg hm pr (star_cons rfl), fun σ H σu M Qu Q rs S hf ct => ?_⟩
    refine q1 σ H σu M _ _ rs S hf fun v H1 u M1 st S1 r hq => ?_
    obtain ⟨n, rfl, b1, b2, b3, b4, hq⟩ := hq
    cases r
    exact ⟨n, rfl, rg_ok b1 b2 b3 b4, fun q hq2 => (ct.tr S st).tup S1 (rel_rg 0 n) hq hq2⟩
  | false =>
    subst hx
    refine ⟨_, pe_listRg hc hg hm pr (star_cons rfl), fun σ H σu M Qu Q rs S hf ct => ?_⟩
    refine q1 σ H σu M _ _ rs S hf fun v H1 u M1 st S1 r hq => ?_
    obtain ⟨n, rfl, b1, b2, b3, b4, hq⟩ := hq
    cases r
    exact ⟨n, rfl, rg_ok b1 b2 b3 b4, fun q hq2 => (ct.tr S st).lst S1 (rel_rg 0 n) hq hq2⟩
theorem se_lrng2 {t : Bool} {a b : Expr} {f g : WE} {x y : Str} {p p2 pos pos2 : Pos} (hc : X.calm = true) (hx : x = if t = true then ("tuple" : Str) else ("list" : Str)) (hy : y = "range") (hg : Gl X x) (hm : X.mg x = none) (hg2 : Gl X y) (hm2 : X.mg y = none) (hs : isStar a = false) (hs2 : isStar b = false) (h0 : SE1 X f a) (h : SE1 X g b) :
    SE1 X (fun σ M Q => f σ M fun x M1 => ∃ i, x = .int i ∧ g σ M1 fun y M2 => ∃ n, y = .int n ∧ n ≤ LIM ∧ -LIM ≤ n ∧ i ≤ LIM ∧ -LIM ≤ i ∧ if t = true then Q (.tup (rngU i n)) M2 else ∀ p, M2 p = none → Q (.ref p) (um M2 p (.lst (rngU i n))))
      (.Call (.Name x p) [.Call (.Name y p2) [a, b] [] pos2] [] pos) := by
  obtain ⟨t0, p0, q0⟩ := h0
  obtain ⟨t1, p1, q1⟩ := h
  subst hy
  have pr := prg_2 (p := p2) (pos := pos2) hg2 hm2 p0 p1 (star_cons hs) (star_cons hs2) (star_plain (by simp [hs2]))
  cases t with
  | true =>
    subst hx
    refine ⟨_, pe_tupRg hc hg hm pr (star_cons rfl), fun σ H σu M Qu Q rs S hf ct => ?_⟩
    refine q0 σ H σu M _ _ rs S hf fun v0 H0 u0 M0 st0 S0 r0 hq => ?_
    obtain ⟨i, rfl, hq⟩ := hq
    refine q1 σ H0 σu M0 _ _ (rs.stp S st0) S0 hq fun v H1 u M1 st S1 r hq => ?_
    obtain ⟨n, rfl, b1, b2, b3, b4, hq⟩ := hq
    cases r
    cases r0
    exact ⟨i, n, rfl, rfl, rg_ok b1 b2 b3 b4, fun q hq2 => (ct.tr S (st0.trans S st)).tup S1 (rel_rg i n) hq hq2⟩
  | false =>
    subst hx
    refine ⟨_, pe_listRg hc hg hm pr (star_cons rfl), fun σ H σu M Qu Q rs S hf ct => ?_⟩
    refine q0 σ H σu M _ _ rs S hf fun v0 H0 u0 M0 st0 S0 r0 hq => ?_
    obtain ⟨i, rfl, hq⟩ := hq
    refine q1 σ H0 σu M0 _ _ (rs.stp S st0) S0 hq fun v H1 u M1 st S1 r hq => ?_
    obtain ⟨n, rfl, b1, b2, b3, b4, hq⟩ := hq
    cases r
    cases r0
    exact ⟨i, n, rfl, rfl, rg_ok b1 b2 b3 b4, fun q hq2 => (ct.tr S (st0.trans S st)).lst S1 (rel_rg i n) hq hq2⟩
end
end Pl

set_option maxHeartbeats 4000000
/-! targets, comprehensions, statements -/
namespace Pl
open PySem L2
def ContS (K : Kw) (H : Hp) (M : Hm) (Qu : SU → Hm → Prop) (Q : L2.St → Hp → Prop) : Prop := ∀ σ' H' σu' M', Stp H M H' M' → RelS K H' σ' σu' → Sim K H' M' → Qu σu' M' → Q σ' H'
/-- a target, assigned -/
def EvG (K : Kw) (t : TG) (tg : Tg) : Prop := ∀ (x : V) (u : U) (σ : L2.St) (H : Hp) (σu : SU) (M : Hm) (Qu : SU → Prop) (Q : L2.St → Hp → Prop), RelS K H σ σu → Rel K H x u → tgW tg u σu Qu →
  (∀ σ' σu', RelS K H σ' σu' → Qu σu' → (∀ vs, (∀ i ∈ tg.slots, i ∈ vs) → L2.wipe σ' vs = L2.wipe σ vs) → Q σ' H) → t x σ H Q
def SG (X : Cx) (e : Expr) (tg : Tg) : Prop := ∃ t, PG X e t ∧ EvG (kwX X) t tg
theorem setAll_len : ∀ (is : List Nat) (l : List U) (σ σ' : SU), setAll is l σ = some σ' → l.length = is.length
  | [], [], _, _, _ => rfl
  | [], _ :: _, _, _, h => by cases h
  | _ :: _, [], _, _, h => by cases h
  | i :: is, u :: us, σ, σ', h => by
    have q := setAll_len is us _ σ' h
    rw [List.length_cons, List.length_cons, q]
theorem wipe_set (σ : L2.St) (i : Nat) (x : Option V) : ∀ vs : List Nat, i ∈ vs → L2.wipe (σ.set i x) vs = L2.wipe σ vs
  | [], h => by cases h
  | v :: vs, h => by
    unfold L2.wipe
    by_cases hv : i ∈ vs
    · rw [wipe_set σ i x vs hv]
    · have e : i = v := by
        rcases List.mem_cons.mp h with e | e
        · exact e
        · exact absurd e hv
      subst e
      have h2 : ∀ ws : List Nat, i ∉ ws → L2.wipe (σ.set i x) ws = (L2.wipe σ ws).set i x := by
        intro ws
        induction ws with
        | nil => intro _; rfl
        | cons w ws ih =>
          intro hw
          have h3 : i ∉ ws := fun z => hw (List.mem_cons_of_mem _ z)
          have h4 : w ≠ i := fun z => hw (by rw [z]; exact List.mem_cons_self)
          unfold L2.wipe
          rw [ih h3, List.set_comm _ _ (fun z => h4 z.symm)]
      rw [h2 vs hv, List.set_set]
section
variable {X : Cx}
theorem sg_one {i : Nat} {x : Str} {pos : Pos} (hN : X.N.Nodup) (hi : X.N[i]? = some x) (hx : Loc X.env.scope x) (hf : X.fn x = true ∨ X.env.scope.names.lookup x = some .local) : SG X (.Name x pos) (.one i) :=
  ⟨_, pg_name hN hi hx hf, fun v u σ H σu M Qu Q rs r h c => c _ _ (rs.set r i) h fun vs hv => wipe_set σ i _ vs (hv i (by simp [Tg.slots]))⟩
def isName (c : Str → Bool) : Expr → Bool
  | .Name x _ => c x
  | _ => false
/-- the names and their slots -/
def namesB (N : List Str) (ok : Str → Bool) : List Nat → List Expr → Bool
  | [], [] => true
  | i :: is, .Name x _ :: es => decide (N[i]? = some x) && ok x && namesB N ok is es
  | _, _ => false
theorem names_each {N : List Str} {ok : Str → Bool} {env : Env} : ∀ {is : List Nat} {es : List Expr}, namesB N ok is es = true → (assignEach es env).length = is.length ∧ (assignEach es env).findIdx? (·.1) = none
  | [], [], _ => ⟨rfl, rfl⟩
  | i :: is, e :: es, h => by
    cases e <;> first | (simp [namesB] at h; done) | skip
    unfold namesB at h
    rw [Bool.and_eq_true] at h
    obtain ⟨a, b⟩ := names_each (env := env) h.2
    refine ⟨?_, ?_⟩
    · show (assignEach es env).length + 1 = is.length + 1
      rw [a]
    · show List.findIdx? (·.1) ((false, _) :: assignEach es env) = none
      rw [List.findIdx?_cons]
      simp only [Bool.false_eq_true, if_false]
      rw [b]
      rfl
  | [], _ :: _, h => by simp [namesB] at h
  | _ :: _, [], h => by simp [namesB] at h
theorem sgs_names {ok : Str → Bool} (hN : X.N.Nodup) (hok : ∀ x, ok x = true → Loc X.env.scope x ∧ (X.fn x = true ∨ X.env.scope.names.lookup x = some .local)) : ∀ {is : List Nat} {es : List Expr}, namesB X.N ok is es = true →
    ∃ t, PGs X es t ∧ ∀ (vs : List V) (us : List U) (σ : L2.St) (H : Hp) (σu σu' : SU) (Q : L2.St → Hp → Prop), RelS (kwX X) H σ σu → RelL (kwX X) H vs us → setAll is us σu = some σu' →
      (∀ σ', RelS (kwX X) H σ' σu' → (∀ ws, (∀ i ∈ is, i ∈ ws) → L2.wipe σ' ws = L2.wipe σ ws) → Q σ' H) → t vs σ H Q
  | [], [], _ => ⟨_, pgs_nil, fun vs us σ H σu σu' Q rs r h c => by
    cases us with
    | nil =>
      cases r
      have e : some σu = some σu' := h
      cases e
      exact ⟨rfl, c σ rs fun _ _ => rfl⟩
    | cons _ _ => cases h⟩
  | i :: is, e :: es, h => by
    cases e <;> first | (simp [namesB] at h; done) | skip
    rename_i x pos
    unfold namesB at h
    rw [Bool.and_eq_true, Bool.and_eq_true] at h
    obtain ⟨⟨h1, h2⟩, h3⟩ := h
    obtain ⟨t, p, q⟩ := sgs_names hN hok h3
    obtain ⟨l1, l2⟩ := hok x h2
    refine ⟨_, pgs_cons (pg_name hN (of_decide_eq_true h1) l1 l2) p rfl, fun vs us σ H σu σu' Q rs r hs c => ?_⟩
    cases us with
    | nil => cases hs
    | cons u us =>
      cases r with
      | cons ra rb =>
        refine ⟨_, _, rfl, ?_⟩
        refine q _ _ _ H _ _ Q (rs.set ra i) rb hs fun σ' rs' hw => c σ' rs' fun ws hws => ?_
        rw [hw ws fun j hj => hws j (List.mem_cons_of_mem _ hj), wipe_set _ _ _ _ (hws i List.mem_cons_self)]
  | [], _ :: _, h => by simp [namesB] at h
  | _ :: _, [], h => by simp [namesB] at h
theorem sg_many {ok : Str → Bool} {is : List Nat} {es : List Expr} {k : Nat} {pos : Pos} (hc : X.calm = true) (hN : X.N.Nodup) (hok : ∀ x, ok x = true → Loc X.env.scope x ∧ (X.fn x = true ∨ X.env.scope.names.lookup x = some .local)) (h : namesB X.N ok is es = true) :
    SG X (.Tuple es k pos) (.many is) := by
  obtain ⟨t, p, q⟩ := sgs_names hN hok h
  obtain ⟨l1, l2⟩ := names_each (env := X.env) h
  refine ⟨_, pg_tup hc p l1 l2, fun v u σ H σu M Qu Q rs r hq c => ?_⟩
  obtain ⟨l, σ', rfl, hs, hq⟩ := hq
  cases r with
  | tup t1 rl =>
    have hlen : l.length = is.length := setAll_len is l σu σ' hs
    refine ⟨_, _, rfl, t1.sq, by rw [rl.length, hlen], ?_⟩
    exact q _ _ _ H _ _ Q rs rl hs fun σ1 rs1 hw => c σ1 σ' rs1 hq hw
end

/-! ### comprehensions -/
theorem Rel_updD {K : Kw} {H : Hp} {D : Addr} {xs ys : List V} (hD : H D = some (.lst xs)) : (∀ {v : V} {u : U}, Rel K H v u → Rel K (upd H D (.lst ys)) v u) ∧ (∀ {v : List V} {u : List U}, RelL K H v u → RelL K (upd H D (.lst ys)) v u) := by
  have tp : ∀ {a : Addr} {vs : List V}, Tp K H a vs → Tp K (upd H D (.lst ys)) a vs := fun {a vs} h => by
    have ne : a ≠ D := fun e => by
      have h2 : H a = some (.tup vs) := h
      rw [e, hD] at h2
      cases h2
    exact (upd_ne ne).trans h
  have td : ∀ {a : Addr} {vs : List V}, Td K H a vs → Td K (upd H D (.lst ys)) a vs := fun {a vs} h => by
    obtain ⟨o, h, d⟩ := h
    have ne : a ≠ D := fun e => by
      rw [e, hD] at h
      cases h
    exact ⟨o, (upd_ne ne).trans h, d⟩
  have rl : ∀ {a : Addr} {vs : List V}, Rl K H a vs → Rl K (upd H D (.lst ys)) a vs := fun {a vs} h => by
    rcases h with ⟨o, h⟩ | h
    · have ne : a ≠ D := fun e => by
        rw [e, hD] at h
        cases h
      exact .inl ⟨o, (upd_ne ne).trans h⟩
    · exact .inr h
  have both : ∀ n : Nat, (∀ {v : V} {u : U}, sizeOf u ≤ n → Rel K H v u → Rel K (upd H D (.lst ys)) v u) ∧ (∀ {v : List V} {u : List U}, sizeOf u ≤ n → RelL K H v u → RelL K (upd H D (.lst ys)) v u) := by
    intro n
    induction n with
    | zero =>
      refine ⟨fun {v u} h r => ?_, fun {v u} h r => ?_⟩
      · cases u <;> simp at h
      · cases u <;> simp at h
    | succ n ih =>
      refine ⟨fun {v u} h r => ?_, fun {v u} h r => ?_⟩
      · cases r with
        | non => exact .non
        | bl b => exact .bl b
        | int i => exact .int i
        | str x => exact .str x
        | ref a => exact .ref a
        | tup t rr => exact .tup (tp t) (ih.2 (by simp at h; omega) rr)
        | rol t rr => exact .rol (rl t) (ih.2 (by simp at h; omega) rr)
        | dtp t rr => exact .dtp (td t) (ih.2 (by simp at h; omega) rr)
      · cases r with
        | nil => exact .nil
        | cons a b => exact .cons (ih.1 (by simp at h; omega) a) (ih.2 (by simp at h; omega) b)
  exact ⟨fun {v u} r => (both _).1 (Nat.le_refl _) r, fun {v u} r => (both _).2 (Nat.le_refl _) r⟩
theorem Sim_updD {K : Kw} {H : Hp} {M : Hm} {D : Addr} {xs ys : List V} (S : Sim K H M) (hD : H D = some (.lst xs)) (hM : M D = none) : Sim K (upd H D (.lst ys)) M := fun a o e => by
  have ne : a ≠ D := fun z => by rw [z, hM] at e; cases e
  obtain ⟨f, g⟩ := @Rel_updD K H D xs ys hD
  have q := S a o e
  cases o with
  | lst us =>
    obtain ⟨vs, e1, r⟩ := q
    exact ⟨vs, by rw [upd_ne ne]; exact e1, g r⟩
  | dct z t ks =>
    cases t with
    | false => obtain ⟨kvs, e1, r⟩ := q; exact ⟨kvs, by rw [upd_ne ne]; exact e1, Paired.mapR r fun p q x => ⟨x.1, f x.2⟩⟩
    | true => obtain ⟨kvs, e1, r⟩ := q; exact ⟨kvs, by rw [upd_ne ne]; exact e1, Paired.mapR r fun p q x => ⟨x.1, f x.2⟩⟩
  | dcn ks => obtain ⟨xs, e1, r, r2⟩ := q; exact ⟨xs, by rw [upd_ne ne]; exact e1, Paired.mapR r fun p q x => ⟨⟨x.1.1, x.1.2.1, f x.1.2.2⟩, x.2.elim fun v y => ⟨v, y.1, f y.2⟩⟩, r2⟩
  | obj cn fs => obtain ⟨dx, vs, e1, r, r2⟩ := q; exact ⟨dx, vs, by rw [upd_ne ne]; exact e1, Paired.mapR r fun p q x => ⟨x.1, f x.2⟩, r2⟩
theorem wipe_wipe (σ : L2.St) (ws : List Nat) : L2.wipe (L2.wipe σ ws) ws = L2.wipe σ ws := by
  have gen : ∀ (us ws : List Nat) (τ : L2.St), (∀ i ∈ us, i ∈ ws) → L2.wipe (L2.wipe τ us) ws = L2.wipe τ ws := by
    intro us
    induction us with
    | nil => intro ws τ _; rfl
    | cons u us ih =>
      intro ws τ hsub
      show L2.wipe ((L2.wipe τ us).set u none) ws = _
      rw [wipe_set _ _ _ _ (hsub u List.mem_cons_self)]
      exact ih ws τ fun i hi => hsub i (List.mem_cons_of_mem _ hi)
  exact gen ws ws σ fun i hi => hi
abbrev stepW (tg : Tg) (fc : WT) (fe : WE) (σu : SU) : U → (Option U → Hm → Prop) → Hm → Prop := fun x k M => tgW tg x (wipU σu tg.slots) fun σ2 => fc σ2 M fun b M2 => if b = true then fe σ2 M2 fun y M3 => k (some y) M3 else k none M2
theorem comp_core {K : Kw} {tgr : TG} {tg : Tg} {tt : TT} {fc : WT} {te : TE} {fe : WE} {vs : List Nat} (qg : EvG K tgr tg) (qc : EvT K tt fc) (qe : EvE K te fe) (hvs : vs = tg.slots)
    {σ : L2.St} {σu : SU} {H1 : Hp} {M1 : Hm} {J : It} {items : List U} {g : Hm → Prop} {fin : List U → Hm → Prop} (rs : RelS K H1 σ σu) (S1 : Sim K H1 M1) (ok : ItOk K H1 M1 J items g) (hg0 : g M1)
    (hc : compL (stepW tg fc fe σu) g fin items [] M1) {Q : VK}
    (hfin : ∀ D acc accV H2 M2, H1 D = none → Stp H1 M1 H2 M2 → Sim K H2 M2 → M2 D = none → H2 D = some (.lst accV) → RelL K H2 accV acc → g M2 → fin acc M2 → Q (.ref D) H2) :
    ∀ D, H1 D = none → ∃ W : Nat → Nat → Hp → Prop, (∃ m, W 0 m (upd H1 D (.lst []))) ∧ ∀ i m H, W i m H →
      (J.stop i H ∧ Q (.ref D) H) ∨ (J.go i H ∧ ∃ Nx : Hp → Prop, (∀ H', Nx H' → ∃ m', m' < m ∧ W (i + 1) m' H') ∧ ∀ x H', J.yld i H x H' → tgr x (L2.wipe σ vs) H' fun σ2 H2 => L2.wipe σ2 vs = L2.wipe σ vs ∧ tt σ2 H2 fun b H3 =>
        if b = true then te σ2 H3 fun y H4 => ∃ acc, H4 D = some (.lst acc) ∧ acc.length < sizeLine ∧ Nx (upd H4 D (.lst (acc ++ [y]))) else Nx H3) := fun D hD => by
  have hMD : M1 D = none := S1.fr hD
  have neD : ∀ a o, H1 a = some o → a ≠ D := fun a o h z => by rw [z, hD] at h; cases h
  have neM : ∀ a o, M1 a = some o → a ≠ D := fun a o h z => by rw [z, hMD] at h; cases h
  let W : Nat → Nat → Hp → Prop := fun i m H2 => m = items.length - i ∧ i ≤ items.length ∧ ∃ (M2 : Hm) (acc : List U) (accV : List V), Stp H1 M1 H2 M2 ∧ Sim K H2 M2 ∧ M2 D = none ∧ H2 D = some (.lst accV) ∧ RelL K H2 accV acc ∧ g M2 ∧
    compL (stepW tg fc fe σu) g fin (items.drop i) acc M2
  refine ⟨W, ⟨items.length, by simp, Nat.zero_le _, M1, [], [], Stp.newT S1 hD, ?_, hMD, upd_same, .nil, hg0, hc⟩, ?_⟩
  · exact S1.to (Stp.newT S1 hD) fun a x e => .inl ⟨e, upd_ne (neM a x e)⟩
  · rintro i m H2 ⟨rfl, hi, M2, acc, accV, st2, S2, hMD2, hD2, racc, hg, hc⟩
    obtain ⟨go, stop⟩ := ok i H2 M2 st2 S2 hg
    by_cases hlt : i < items.length
    · right
      have hu : items[i]? = some items[i] := List.getElem?_eq_getElem hlt
      obtain ⟨jgo, jy⟩ := go _ hu
      refine ⟨jgo, fun H' => ∃ m', m' < items.length - i ∧ W (i + 1) m' H', fun H' h => h, fun x H3 hy => ?_⟩
      obtain ⟨st3, S3, rx⟩ := jy x H3 hy
      have hdrop : items.drop i = items[i] :: items.drop (i + 1) := List.drop_eq_getElem_cons hlt
      rw [hdrop] at hc
      have hc : tgW tg items[i] (wipU σu tg.slots) fun σ2 => fc σ2 M2 fun b M3 => if b = true then fe σ2 M3 fun y M4 => (g M4 ∧ ((some y : Option U).isSome = true → acc.length < LIM) ∧ compL (stepW tg fc fe σu) g fin (items.drop (i + 1)) (acc ++ (some y).toList) M4)
          else (g M3 ∧ ((none : Option U).isSome = true → acc.length < LIM) ∧ compL (stepW tg fc fe σu) g fin (items.drop (i + 1)) (acc ++ (none : Option U).toList) M3) := hc
      have rs3 : RelS K H3 (L2.wipe σ vs) (wipU σu tg.slots) := by
        rw [hvs]
        exact (rs.stp S1 (st2.trans S1 st3)).wipe _
      refine qg x items[i] (L2.wipe σ vs) H3 (wipU σu tg.slots) M2 _ _ rs3 rx hc fun σ4 σu4 rs4 hc4 hw => ?_
      refine ⟨by
        have e := hw vs (by rw [hvs]; exact fun i hi => hi)
        rw [e]
        exact wipe_wipe σ vs, ?_⟩
      refine qc σ4 H3 σu4 M2 _ _ rs4 S3 hc4 fun b H5 M5 st5 S5 hb => ?_
      have stA : Stp H1 M1 H5 M5 := (st2.trans S1 st3).trans S1 st5
      have hD3 := st3.keep D _ hD2 hMD2
      have hD5 := st5.keep D _ hD3.1 hD3.2
      cases b with
      | false =>
        obtain ⟨g5, _, hrest⟩ := hb
        refine ⟨_, by omega, rfl, by omega, M5, acc, accV, stA, S5, hD5.2, hD5.1, (racc.stp S2 st3).stp S3 st5, g5, ?_⟩
        simpa using hrest
      | true =>
        refine qe σ4 H5 σu4 M5 _ _ (rs4.stp S3 st5) S5 hb fun y H6 uy M6 st6 S6 ry hk => ?_
        obtain ⟨g6, hsz, hrest⟩ := hk
        have hD6 := st6.keep D _ hD5.1 hD5.2
        have racc6 := ((racc.stp S2 st3).stp S3 st5).stp S5 st6
        obtain ⟨f1, f2⟩ := @Rel_updD K H6 D accV (accV ++ [y]) hD6.1
        refine ⟨accV, hD6.1, by rw [racc6.length]; exact lt_line (hsz rfl), _, by omega, rfl, by omega, M6, acc ++ [uy], accV ++ [y], ⟨fun a o h n => ?_, fun a t ks e => ?_⟩, Sim_updD S6 hD6.1 hD6.2, hD6.2, upd_same, f2 (racc6.append (.cons ry .nil)), g6, hrest⟩
        · have z := (stA.trans S1 st6).keep a o h n
          exact ⟨by rw [upd_ne (neD a o h)]; exact z.1, z.2⟩
        · have z := (stA.trans S1 st6).lock a t ks e
          exact ⟨by rw [upd_ne (neM a _ e)]; exact z.1, z.2⟩
    · left
      have e : i = items.length := by omega
      subst e
      refine ⟨stop rfl, hfin D acc accV H2 M2 hD st2 S2 hMD2 hD2 racc hg ?_⟩
      have z := hc
      rw [List.drop_length] at z
      exact z
/-- the new list joins what may change -/
theorem join_new {K : Kw} {H : Hp} {M : Hm} {H1 : Hp} {M1 : Hm} {H2 : Hp} {M2 : Hm} {D : Addr} {acc : List U} {accV : List V} (S : Sim K H M) (st : Stp H M H1 M1) (S1 : Sim K H1 M1) (hD : H1 D = none) (st2 : Stp H1 M1 H2 M2) (S2 : Sim K H2 M2) (hD2 : H2 D = some (.lst accV)) (r : RelL K H2 accV acc) :
    Stp H M H2 (um M2 D (.lst acc)) ∧ Sim K H2 (um M2 D (.lst acc)) := by
  have z := st.trans S st2
  refine ⟨⟨fun a o h n => ?_, fun a t ks e => ?_⟩, fun a o ha => ?_⟩
  · have ne : a ≠ D := fun q => by
      have h2 := (st.keep a o h n).1
      rw [q, hD] at h2
      cases h2
    exact ⟨(z.keep a o h n).1, by rw [um_ne ne]; exact (z.keep a o h n).2⟩
  · have ne : a ≠ D := fun q => by
      obtain ⟨x, hx⟩ := (S a _ e).has
      have h2 := (st.lock a t ks e).1
      rw [hx, q, hD] at h2
      cases h2
    exact ⟨(z.lock a t ks e).1, by rw [um_ne ne]; exact (z.lock a t ks e).2⟩
  · by_cases hz : a = D
    · subst hz
      rw [um_same] at ha
      cases ha
      exact ⟨accV, hD2, r⟩
    · rw [um_ne hz] at ha
      exact S2 a o ha
theorem ev_comp {K : Kw} {ti : TI} {fi : WI} {tgr : TG} {tg : Tg} {tt : TT} {fc : WT} {te : TE} {fe : WE} {vs : List Nat} (qi : EvI K ti fi) (qg : EvG K tgr tg) (qc : EvT K tt fc) (qe : EvE K te fe) (hvs : vs = tg.slots) :
    EvE K (tLc ti tgr tt te vs) (compW fi tg fc fe) := fun σ H σu M Qu Q rs S hf c => by
  refine qi σ H σu M _ _ rs S hf fun J H1 items g ex M1 st S1 ok hg0 hex hq => ?_
  subst hex
  refine comp_core qg qc qe hvs (rs.stp S st) S1 ok hg0 hq fun D acc accV H2 M2 hD st2 S2 hMD2 hD2 r hg hfin => ?_
  obtain ⟨a, b⟩ := join_new S st S1 hD st2 S2 hD2 r
  exact c (.ref D) H2 (.ref D) _ a b (.ref D) (hfin D hMD2)
/-! ### over a dict's keys -/
theorem lock_stp {K : Kw} {H : Hp} {M : Hm} (S : Sim K H M) {d : Addr} {t : Bool} {ks : List (U × U)} (hm : M d = some (.dct false t ks)) :
    ∃ u, H d = some u ∧ Mut (some u) ∧ (∀ od, Stp H M (upd H d (.frz od u)) (um M d (.dct true t ks)) ∧ Sim K (upd H d (.frz od u)) (um M d (.dct true t ks)) ∧
      ((∃ kvs, u = .dK kvs ∧ RelK K H kvs ks ∧ t = false) ∨ ∃ kvs, u = .dT kvs ∧ RelT K H kvs ks ∧ t = true)) := by
  have q := S d _ hm
  cases t with
  | false =>
    obtain ⟨kvs, e, r⟩ := q
    refine ⟨_, e, trivial, fun od => ⟨Stp.mut hm, S.mut (m := .dct true false ks) hm rfl ⟨kvs, ⟨od, upd_same⟩, ?_⟩, .inl ⟨kvs, rfl, r, rfl⟩⟩⟩
    exact Paired.mapR r fun p q x => ⟨x.1, x.2.stp S (Stp.mut (m := .dct true false ks) hm)⟩
  | true =>
    obtain ⟨kvs, e, r⟩ := q
    refine ⟨_, e, trivial, fun od => ⟨Stp.mut hm, S.mut (m := .dct true true ks) hm rfl ⟨kvs, ⟨od, upd_same⟩, ?_⟩, .inr ⟨kvs, rfl, r, rfl⟩⟩⟩
    exact Paired.mapR r fun p q x => ⟨x.1, x.2.stp S (Stp.mut (m := .dct true true ks) hm)⟩
/-- what the walk yields -/
theorem it_keys {K : Kw} {H0 : Hp} {M0 : Hm} {d : Addr} {od : Obj} {kvs : List (Key × V)} {ks : List (U × U)} (e : H0 d = some (.frz od (.dK kvs))) (hm : M0 d = some (.dct true false ks)) (r : RelK K H0 kvs ks) : ItOk K H0 M0 (Itk d od kvs) (ks.map (·.1)) (fun M => M d = some (.dct true false ks)) := fun i H M st S hM => by
  have e2 : H d = some (.frz od (.dK kvs)) := by rw [(st.lock d _ _ hm).1, e]
  have rk := relK_keys r
  have hlen : kvs.length = (ks.map (·.1)).length := by rw [List.length_map]; exact RelK.len r
  refine ⟨fun u hu => ?_, fun hl => ⟨e2, by rw [hlen]; exact Nat.le_of_eq hl⟩⟩
  have hi : i < kvs.length := by rw [hlen]; exact (List.getElem?_eq_some_iff.mp hu).1
  refine ⟨⟨e2, hi⟩, fun x H' ⟨eH, k, v, hk, hx⟩ => ?_⟩
  subst eH hx
  refine ⟨Stp.refl _ M, S, ?_⟩
  obtain ⟨v2, h2, r2⟩ := rk.get hu
  rw [List.getElem?_map, hk] at h2
  cases h2
  cases k with
  | inl n =>
    have e3 : u = .int n := by cases r2; rfl
    rw [e3]
    exact .int n
  | inr n =>
    have e3 : u = .str n := by cases r2; rfl
    rw [e3]
    exact .str n
theorem relT_get {K : Kw} {H : Hp} : ∀ {kvs : List (List Key × V)} {ks : List (U × U)} {i : Nat} {u : U}, RelT K H kvs ks → (ks.map (·.1))[i]? = some u → ∃ k v, kvs[i]? = some (k, v) ∧ u = .tup (k.map keyU)
  | [], _, i, u, r, h => by unfold RelT at r; cases r; simp at h
  | (k, v) :: kvs, _, i, u, r, h => by
    unfold RelT at r
    cases r with
    | @cons p q ps qs a b => cases i with
      | zero =>
        simp at h
        exact ⟨k, v, rfl, by rw [← h]; exact a.1⟩
      | succ i =>
        obtain ⟨k2, v2, e1, e2⟩ := relT_get (K := K) (H := H) (kvs := kvs) (i := i) b (by simpa using h)
        exact ⟨k2, v2, by simpa using e1, e2⟩
theorem it_keysT {K : Kw} {H0 : Hp} {M0 : Hm} {d : Addr} {od : Obj} {kvs : List (List Key × V)} {ks : List (U × U)} (e : H0 d = some (.frz od (.dT kvs))) (hm : M0 d = some (.dct true true ks)) (r : RelT K H0 kvs ks) : ItOk K H0 M0 (Itkt d od kvs) (ks.map (·.1)) (fun M => M d = some (.dct true true ks)) := fun i H M st S hM => by
  have e2 : H d = some (.frz od (.dT kvs)) := by rw [(st.lock d _ _ hm).1, e]
  have hlen : kvs.length = (ks.map (·.1)).length := by rw [List.length_map]; exact RelT.len r
  refine ⟨fun u hu => ?_, fun hl => ⟨e2, by rw [hlen]; exact Nat.le_of_eq hl⟩⟩
  have hi : i < kvs.length := by rw [hlen]; exact (List.getElem?_eq_some_iff.mp hu).1
  refine ⟨⟨e2, hi⟩, fun x H' ⟨eH, k, v, q, hk, hx, ht⟩ => ?_⟩
  subst eH hx
  refine ⟨Stp.refl _ M, S, ?_⟩
  obtain ⟨k2, v2, h2, e3⟩ := relT_get r hu
  rw [hk] at h2
  cases h2
  rw [e3]
  exact .tup ht (relL_keys k)
/-- the walk over a locked dict that stands in a slot -/
theorem keys_run {K : Kw} {σ : L2.St} {H : Hp} {d : Addr} {i : Nat} {od : Obj} {u : HO} {t : Bool} {ks : List (U × U)} {M : Hm} {R : It → Hp → Prop} (hs : σ[i]? = some (some (.ref d))) (S : Sim K H M) (he : H d = some (.frz od u)) (hm : M d = some (.dct true t ks))
    (hu : (∃ kvs, u = .dK kvs ∧ RelK K H kvs ks ∧ t = false) ∨ ∃ kvs, u = .dT kvs ∧ RelT K H kvs ks ∧ t = true) (k : ∀ J, ItOk K H M J (ks.map (·.1)) (fun M => M d = some (.dct true t ks)) → R J H) : L2.iKeys (tVar i) σ H R := by
  refine ⟨_, hs, d, od, rfl, ?_⟩
  rcases hu with ⟨kvs, rfl, r, rfl⟩ | ⟨kvs, rfl, r, rfl⟩
  · exact .inl ⟨kvs, he, k _ (it_keys he hm r)⟩
  · exact .inr ⟨kvs, he, k _ (it_keysT he hm r)⟩
theorem hu_stp {K : Kw} {H H' : Hp} {M M' : Hm} (S : Sim K H M) (st : Stp H M H' M') {u : HO} {t : Bool} {ks : List (U × U)} (hu : (∃ kvs, u = .dK kvs ∧ RelK K H kvs ks ∧ t = false) ∨ ∃ kvs, u = .dT kvs ∧ RelT K H kvs ks ∧ t = true) :
    (∃ kvs, u = .dK kvs ∧ RelK K H' kvs ks ∧ t = false) ∨ ∃ kvs, u = .dT kvs ∧ RelT K H' kvs ks ∧ t = true := by
  rcases hu with ⟨kvs, e, r, e2⟩ | ⟨kvs, e, r, e2⟩
  · exact .inl ⟨kvs, e, Paired.mapR r fun p q x => ⟨x.1, x.2.stp S st⟩, e2⟩
  · exact .inr ⟨kvs, e, Paired.mapR r fun p q x => ⟨x.1, x.2.stp S st⟩, e2⟩
/-- unlocked again -/
theorem unlock_stp {K : Kw} {H : Hp} {M : Hm} {H1 : Hp} {M1 : Hm} {H2 : Hp} {M2 : Hm} {d : Addr} {od : Obj} {u : HO} {t : Bool} {ks : List (U × U)} (S : Sim K H M) (hm : M d = some (.dct false t ks)) (he1 : H1 d = some (.frz od u)) (hm1 : M1 d = some (.dct true t ks)) (st : Stp H M H1 M1) (S1 : Sim K H1 M1)
    (st2 : Stp H1 M1 H2 M2) (S2 : Sim K H2 M2) (hm2 : M2 d = some (.dct true t ks)) (hu : (∃ kvs, u = .dK kvs ∧ RelK K H2 kvs ks ∧ t = false) ∨ ∃ kvs, u = .dT kvs ∧ RelT K H2 kvs ks ∧ t = true) :
    H2 d = some (.frz od u) ∧ Stp H M (upd H2 d u) (um M2 d (.dct false t ks)) ∧ Sim K (upd H2 d u) (um M2 d (.dct false t ks)) ∧ (∀ v x, Rel K H2 v x → Rel K (upd H2 d u) v x) ∧ (∀ v x, RelL K H2 v x → RelL K (upd H2 d u) v x) := by
  have e2 : H2 d = some (.frz od u) := by rw [(st2.lock d _ _ hm1).1, he1]
  have tp : ∀ {a : Addr} {vs : List V}, Tp K H2 a vs → Tp K (upd H2 d u) a vs := fun {a vs} h => by
    have ne : a ≠ d := fun e => by
      have h2 : H2 a = some (.tup vs) := h
      rw [e, e2] at h2
      cases h2
    exact (upd_ne ne).trans h
  have noT : ∀ o vs, H2 d ≠ some (.frz o (.tup vs)) := fun o vs h => by
    rw [e2] at h
    rcases hu with ⟨kvs, rfl, _⟩ | ⟨kvs, rfl, _⟩ <;> cases h
  have td : ∀ {a : Addr} {vs : List V}, Td K H2 a vs → Td K (upd H2 d u) a vs := fun {a vs} h => by
    obtain ⟨o, h, dn⟩ := h
    have ne : a ≠ d := fun e => noT o vs (by rw [← e]; exact h)
    exact ⟨o, (upd_ne ne).trans h, dn⟩
  have nol : ∀ o vs, H2 d ≠ some (.frz o (.lst vs)) := fun o vs h => by
    rw [e2] at h
    rcases hu with ⟨kvs, rfl, _⟩ | ⟨kvs, rfl, _⟩ <;> cases h
  have rl : ∀ {a : Addr} {vs : List V}, Rl K H2 a vs → Rl K (upd H2 d u) a vs := fun {a vs} h => by
    rcases h with ⟨o, h⟩ | h
    · have ne : a ≠ d := fun e => nol o vs (by rw [← e]; exact h)
      exact .inl ⟨o, (upd_ne ne).trans h⟩
    · exact .inr h
  have both : ∀ n : Nat, (∀ {v : V} {x : U}, sizeOf x ≤ n → Rel K H2 v x → Rel K (upd H2 d u) v x) ∧ (∀ {v : List V} {x : List U}, sizeOf x ≤ n → RelL K H2 v x → RelL K (upd H2 d u) v x) := by
    intro n
    induction n with
    | zero =>
      refine ⟨fun {v u} h r => ?_, fun {v u} h r => ?_⟩
      · cases u <;> simp at h
      · cases u <;> simp at h
    | succ n ih =>
      refine ⟨fun {v u} h r => ?_, fun {v u} h r => ?_⟩
      · cases r with
        | non => exact .non
        | bl b => exact .bl b
        | int i => exact .int i
        | str x => exact .str x
        | ref a => exact .ref a
        | tup t rr => exact .tup (tp t) (ih.2 (by simp at h; omega) rr)
        | rol t rr => exact .rol (rl t) (ih.2 (by simp at h; omega) rr)
        | dtp t rr => exact .dtp (td t) (ih.2 (by simp at h; omega) rr)
      · cases r with
        | nil => exact .nil
        | cons a b => exact .cons (ih.1 (by simp at h; omega) a) (ih.2 (by simp at h; omega) b)
  have f1 : ∀ v x, Rel K H2 v x → Rel K (upd H2 d u) v x := fun v x r => (both _).1 (Nat.le_refl _) r
  have f2 : ∀ v x, RelL K H2 v x → RelL K (upd H2 d u) v x := fun v x r => (both _).2 (Nat.le_refl _) r
  have z := st.trans S st2
  refine ⟨e2, ⟨fun a o h n => ?_, fun a t' ks' e => ?_⟩, fun a o ha => ?_, f1, f2⟩
  · have ne : a ≠ d := fun q => by rw [q, hm] at n; cases n
    exact ⟨by rw [upd_ne ne]; exact (z.keep a o h n).1, by rw [um_ne ne]; exact (z.keep a o h n).2⟩
  · have ne : a ≠ d := fun q => by rw [q, hm] at e; cases e
    exact ⟨by rw [upd_ne ne]; exact (z.lock a _ _ e).1, by rw [um_ne ne]; exact (z.lock a _ _ e).2⟩
  · by_cases hz : a = d
    · subst hz
      rw [um_same] at ha
      cases ha
      rcases hu with ⟨kvs, rfl, r, rfl⟩ | ⟨kvs, rfl, r, rfl⟩
      · exact ⟨kvs, upd_same, Paired.mapR r fun p q x => ⟨x.1, f1 _ _ x.2⟩⟩
      · exact ⟨kvs, upd_same, Paired.mapR r fun p q x => ⟨x.1, f1 _ _ x.2⟩⟩
    · rw [um_ne hz] at ha
      have q := S2 a o ha
      cases o with
      | lst us =>
        obtain ⟨vs, e1, r⟩ := q
        exact ⟨vs, by rw [upd_ne hz]; exact e1, f2 _ _ r⟩
      | dct z t ks =>
        cases t with
        | false => obtain ⟨kvs, e1, r⟩ := q; exact ⟨kvs, by rw [upd_ne hz]; exact e1, Paired.mapR r fun p q x => ⟨x.1, f1 _ _ x.2⟩⟩
        | true => obtain ⟨kvs, e1, r⟩ := q; exact ⟨kvs, by rw [upd_ne hz]; exact e1, Paired.mapR r fun p q x => ⟨x.1, f1 _ _ x.2⟩⟩
      | dcn ks => obtain ⟨xs, e1, r, r2⟩ := q; exact ⟨xs, by rw [upd_ne hz]; exact e1, Paired.mapR r fun p q x => ⟨⟨x.1.1, x.1.2.1, f1 _ _ x.1.2.2⟩, x.2.elim fun v y => ⟨v, y.1, f1 _ _ y.2⟩⟩, r2⟩
      | obj cn fs => obtain ⟨dx, vs, e1, r, r2⟩ := q; exact ⟨dx, vs, by rw [upd_ne hz]; exact e1, Paired.mapR r fun p q x => ⟨x.1, f1 _ _ x.2⟩, r2⟩
def keysI (i : Nat) : WI := fun σ M Q => ∃ j d t ks, E.var i = .var j ∧ σ[j]? = some (some (.ref d)) ∧ M d = some (.dct false t ks) ∧
      Q (ks.map (·.1)) (fun M' => M' d = some (.dct true t ks)) (fun P M' => M' d = some (.dct true t ks) ∧ P (um M' d (.dct false t ks))) (um M d (.dct true t ks))
theorem ev_compK {K : Kw} {i : Nat} {tgr : TG} {tg : Tg} {tt : TT} {fc : WT} {te : TE} {fe : WE} {vs : List Nat} (qg : EvG K tgr tg) (qc : EvT K tt fc) (qe : EvE K te fe) (hvs : vs = tg.slots) :
    EvE K (tLockE (tLc (L2.iKeys (tVar i)) tgr tt te vs)) (compW (keysI i) tg fc fe) := fun σ H σu M Qu Q rs S hf c => by
  obtain ⟨j, d, t, ks, ej, hs, hm, hq⟩ := hf
  cases ej
  obtain ⟨v, hv, rv⟩ := rs.2 i _ hs
  obtain rfl : v = .ref d := by cases rv; rfl
  obtain ⟨u, hd, mu, lk⟩ := lock_stp S hm
  refine ⟨d, u, hd, mu, fun od => ?_⟩
  obtain ⟨st, S1, hu⟩ := lk od
  have hu1 := hu_stp S st hu
  refine keys_run hv S1 upd_same um_same hu1 fun J ok => ?_
  refine comp_core (Q := fun v H' => H' d = some (.frz od u) ∧ Q v (upd H' d u)) qg qc qe hvs (rs.stp S st) S1 ok um_same hq fun D acc accV H2 M2 hD st2 S2 hMD2 hD2 r hg hfin => ?_
  obtain ⟨e2, st3, S3, f1, f2⟩ := unlock_stp S hm upd_same um_same st S1 st2 S2 hg (hu_stp S1 st2 hu1)
  refine ⟨e2, ?_⟩
  have ne : D ≠ d := fun z => by rw [z, upd_same] at hD; cases hD
  have hD3 : (upd H2 d u) D = some (.lst accV) := by rw [upd_ne ne]; exact hD2
  have hHD : H D = none := (upd_ne (H := H) (o := HO.frz od u) ne).symm.trans hD
  obtain ⟨a, b⟩ := join_new S (Stp.refl H M) S hHD st3 S3 hD3 (f2 _ _ r)
  refine c (.ref D) _ (.ref D) _ a b (.ref D) (hfin.2 D ?_)
  rw [um_ne ne]
  exact hMD2
end Pl

set_option maxHeartbeats 4000000
/-! canonical readings; comprehensions as expressions; statements -/
namespace Pl
open PySem L2
def cE (K : Kw) (f : WE) : TE := fun σ H Q => ∃ (σu : SU) (M : Hm) (Qu : QU), RelS K H σ σu ∧ Sim K H M ∧ f σu M Qu ∧ Cont K H M Qu Q
def cT (K : Kw) (f : WT) : TT := fun σ H Q => ∃ (σu : SU) (M : Hm) (Qu : Bool → Hm → Prop), RelS K H σ σu ∧ Sim K H M ∧ f σu M Qu ∧ ContB K H M Qu Q
def cG (K : Kw) (tg : Tg) : TG := fun x σ H Q => ∃ (u : U) (σu : SU) (Qu : SU → Prop), RelS K H σ σu ∧ Rel K H x u ∧ tgW tg u σu Qu ∧
  ∀ σ' σu', RelS K H σ' σu' → Qu σu' → (∀ vs, (∀ i ∈ tg.slots, i ∈ vs) → L2.wipe σ' vs = L2.wipe σ vs) → Q σ' H
theorem ev_cE {K : Kw} {f : WE} : EvE K (cE K f) f := fun σ H σu M Qu Q rs S hf c => ⟨σu, M, Qu, rs, S, hf, c⟩
theorem ev_cT {K : Kw} {f : WT} : EvT K (cT K f) f := fun σ H σu M Qu Q rs S hf c => ⟨σu, M, Qu, rs, S, hf, c⟩
theorem ev_cG {K : Kw} {tg : Tg} : EvG K (cG K tg) tg := fun x u σ H σu M Qu Q rs r h c => ⟨u, σu, Qu, rs, r, h, c⟩
theorem SE1.pe {X : Cx} {f : WE} {x : Expr} (h : SE1 X f x) : PE X x (cE (kwX X) f) := by
  obtain ⟨t, p, q⟩ := h
  exact ⟨fun pins s σ H Q I ⟨σu, M, Qu, rs, S, hf, c⟩ => p.run pins s σ H Q I (q σ H σu M Qu Q rs S hf c)⟩
theorem ST.pt {X : Cx} {f : WT} {x : Expr} (h : ST X f x) : PT X x (cT (kwX X) f) := by
  obtain ⟨t, p, q⟩ := h
  exact ⟨fun pins s σ H Q I ⟨σu, M, Qu, rs, S, hf, c⟩ => p.run pins s σ H Q I (q σ H σu M Qu Q rs S hf c)⟩
theorem SG.pg {X : Cx} {x : Expr} {tg : Tg} (h : SG X x tg) : PG X x (cG (kwX X) tg) := by
  obtain ⟨t, p, q⟩ := h
  exact ⟨fun pins s σ H v u Q I r ⟨a, σu, Qu, rs, ra, hf, c⟩ => p.run pins s σ H v u Q I r (q v a σ H σu (fun _ => none) Qu Q rs ra hf c)⟩
section
variable {X : Cx}
/-- the block of a comprehension -/
abbrev Blk (X : Cx) (scope : Scope) (s : Shared) (H : Hp) (C : Addr) (cl : List (Str × Addr)) (fp : List Addr) : Cx := X.blk s H scope (compEnvC scope cl C X.env) fp
theorem no_set {iter : Expr} {env : Env} (h : (match iter with | .Set _ _ _ => false | _ => true) = true) : ∀ x, foldedSetIterable iter env x = pure x := fun x => by
  cases iter <;> first | (cases h; done) | rfl
def notSet : Expr → Bool
  | .Set _ _ _ => false
  | _ => true
theorem no_set' {iter : Expr} {env : Env} (h : notSet iter = true) : ∀ x, foldedSetIterable iter env x = pure x := fun x => by
  cases iter <;> first | (cases h; done) | rfl
structure CompOk (X : Cx) (tgE elt : Expr) (ifs : List Expr) (scope : Scope) (own : List (Str × Nat)) (tg : Tg) (fc : WT) (fe : WE) : Prop where
  calm : X.calm = true
  nd : X.N.Nodup
  blk : BlkOk X.N X.env.scope scope own
  own : own.map (·.2) = tg.slots
  g : ∀ s H C cl fp, SG (Blk X scope s H C cl fp) tgE tg
  c : (ifs = [] ∧ fc = fun _ M Q => Q true M) ∨ ∃ i, ifs = [i] ∧ ∀ s H C cl fp, ST (Blk X scope s H C cl fp) fc i
  e : ∀ s H C cl fp, SE1 (Blk X scope s H C cl fp) fe elt
theorem CompOk.run {tgE elt : Expr} {ifs : List Expr} {scope : Scope} {own : List (Str × Nat)} {tg : Tg} {fc : WT} {fe : WE} (h : CompOk X tgE elt ifs scope own tg fc fe) :
    ∃ tt, (∀ s H C cl fp, PG (Blk X scope s H C cl fp) tgE (cG (kwX X) tg)) ∧ (∀ s H C cl fp, PTs (Blk X scope s H C cl fp) ifs tt) ∧ (∀ s H C cl fp, PE (Blk X scope s H C cl fp) elt (cE (kwX X) fe)) ∧ EvT (kwX X) tt fc := by
  rcases h.c with ⟨rfl, rfl⟩ | ⟨i, rfl, hi⟩
  · exact ⟨tYes, fun s H C cl fp => (h.g s H C cl fp).pg, fun _ _ _ _ _ => pts_nil, fun s H C cl fp => (h.e s H C cl fp).pe, fun σ H σu M Qu Q rs S hf c => c _ _ _ (Stp.refl H M) S hf⟩
  · exact ⟨cT (kwX X) fc, fun s H C cl fp => (h.g s H C cl fp).pg, fun s H C cl fp => pts_one (hi s H C cl fp).pt, fun s H C cl fp => (h.e s H C cl fp).pe, ev_cT⟩
theorem se_comp {tgE iter elt : Expr} {ifs : List Expr} {scope : Scope} {own : List (Str × Nat)} {tg : Tg} {fi : WI} {fc : WT} {fe : WE} {pos : Pos} (hi : SI X tgE iter fi) (h : CompOk X tgE elt ifs scope own tg fc fe) (hs : notSet iter = true) :
    SE1 X (compW fi tg fc fe) (.ListComp elt [⟨tgE, iter, ifs, 0⟩] scope pos) := by
  obtain ⟨ti, p, q⟩ := hi
  obtain ⟨tt, h1, h2, h3, h4⟩ := h.run
  exact ⟨_, pe_lc h.calm h.nd p h.blk h1 h2 h3 (no_set' hs), ev_comp q ev_cG h4 ev_cE h.own⟩
theorem se_compK {tgE iter elt : Expr} {i : Nat} {ifs : List Expr} {scope : Scope} {own : List (Str × Nat)} {tg : Tg} {fc : WT} {fe : WE} {pos : Pos} (hi : PE X iter (tVar i)) (h : CompOk X tgE elt ifs scope own tg fc fe) (hs : notSet iter = true) :
    SE1 X (compW (keysI i) tg fc fe) (.ListComp elt [⟨tgE, iter, ifs, 0⟩] scope pos) := by
  obtain ⟨tt, h1, h2, h3, h4⟩ := h.run
  exact ⟨_, pe_lock (pe_lc h.calm h.nd (pi_keys hi) h.blk h1 h2 h3 (no_set' hs)), ev_compK ev_cG h4 ev_cE h.own⟩
end

/-! ### statements -/
structure ContD (K : Kw) (H : Hp) (M : Hm) (Du : EndsU) (D : Ends) : Prop where
  nx : ContS K H M Du.nx D.nx
  rt : Cont K H M Du.rt D.rt
  bk : ContS K H M Du.bk D.bk
  ct : ContS K H M Du.ct D.ct
theorem ContS.tr {K : Kw} {H H1 : Hp} {M M1 : Hm} {Qu : SU → Hm → Prop} {Q : L2.St → Hp → Prop} (S0 : Sim K H M) (t : Stp H M H1 M1) (c : ContS K H M Qu Q) : ContS K H1 M1 Qu Q := fun σ' H' σu' M' t' rs S q => c σ' H' σu' M' (t.trans S0 t') rs S q
theorem ContD.tr {K : Kw} {H H1 : Hp} {M M1 : Hm} {Du : EndsU} {D : Ends} (S0 : Sim K H M) (t : Stp H M H1 M1) (c : ContD K H M Du D) : ContD K H1 M1 Du D := ⟨c.nx.tr S0 t, c.rt.tr S0 t, c.bk.tr S0 t, c.ct.tr S0 t⟩
abbrev WSt := EndsU → SU → Hm → Prop
def EvS (K : Kw) (t : TS) (f : WSt) : Prop := ∀ (D : Ends) (Du : EndsU) (σ : L2.St) (H : Hp) (σu : SU) (M : Hm), RelS K H σ σu → Sim K H M → f Du σu M → ContD K H M Du D → t D σ H
def SS (X : Cx) (f : WSt) (st : Stmt) : Prop := ∃ t, PS X st t ∧ EvS (kwX X) t f
def SSs (X : Cx) (f : WSt) (sts : List Stmt) : Prop := ∃ t, PSs X sts t ∧ EvS (kwX X) t f
section
variable {X : Cx}
theorem sss_nil : SSs X (fun D σ M => D.nx σ M) [] := ⟨_, pss_nil, fun D Du σ H σu M rs S h c => c.nx _ _ _ _ (Stp.refl H M) rs S h⟩
theorem sss_one {st : Stmt} {f : WSt} (h : SS X f st) : SSs X f [st] := by
  obtain ⟨t, p, q⟩ := h
  exact ⟨t, pss_one p, q⟩
theorem sss_cons {st : Stmt} {sts : List Stmt} {f g : WSt} (h1 : SS X f st) (h2 : SSs X g sts) : SSs X (fun D σ M => f { D with nx := g D } σ M) (st :: sts) := by
  obtain ⟨t1, p1, q1⟩ := h1
  obtain ⟨t2, p2, q2⟩ := h2
  refine ⟨_, pss_cons p1 p2, fun D Du σ H σu M rs S h c => ?_⟩
  exact q1 _ { Du with nx := g Du } σ H σu M rs S h ⟨fun σ' H' σu' M' st rs' S' hq => q2 D Du σ' H' σu' M' rs' S' hq (c.tr S st), c.rt, c.bk, c.ct⟩
theorem ss_pass {pos : Pos} : SS X (fun D σ M => D.nx σ M) (.Pass pos) := ⟨_, ps_pass, fun D Du σ H σu M rs S h c => c.nx _ _ _ _ (Stp.refl H M) rs S h⟩
theorem ss_break {pos : Pos} : SS X (fun D σ M => D.bk σ M) (.Break pos) := ⟨_, ps_break, fun D Du σ H σu M rs S h c => c.bk _ _ _ _ (Stp.refl H M) rs S h⟩
theorem ss_cont {pos : Pos} : SS X (fun D σ M => D.ct σ M) (.Continue pos) := ⟨_, ps_continue, fun D Du σ H σu M rs S h c => c.ct _ _ _ _ (Stp.refl H M) rs S h⟩
theorem ss_nvr {st : Stmt} : SS X (fun _ _ _ => False) st := ⟨_, ps_never, fun D Du σ H σu M rs S h c => h.elim⟩
theorem sss_nvr {st : List Stmt} : SSs X (fun _ _ _ => False) st := ⟨_, pss_never, fun D Du σ H σu M rs S h c => h.elim⟩
theorem ss_ret {e : Expr} {f : WE} {pos : Pos} (h : SE1 X f e) : SS X (fun D σ M => f σ M D.rt) (.Return (some e) pos) := by
  obtain ⟨t, p, q⟩ := h
  exact ⟨_, ps_ret p, fun D Du σ H σu M rs S h c => q σ H σu M _ _ rs S h c.rt⟩
theorem ss_retN {pos : Pos} : SS X (fun D _ M => D.rt .non M) (.Return none pos) := ⟨_, ps_retN, fun D Du σ H σu M rs S h c => c.rt.at_ S .non h⟩
def isComp : Expr → Bool
  | .ListComp .. => true
  | .SetComp .. => true
  | .DictComp .. => true
  | _ => false
theorem no_swap {e : Expr} {t : Option Expr} {l : Nat} {env : Env} (h : isComp e = false) : swapsWith e t l env = pure false := by
  cases e <;> first | (cases h; done) | rfl
theorem ss_expr {e : Expr} {f : WE} {pos : Pos} (hc : isComp e = false) (h : SE1 X f e) : SS X (fun D σ M => f σ M fun _ M1 => D.nx σ M1) (.Expr e pos) := by
  obtain ⟨t, p, q⟩ := h
  refine ⟨_, ps_expr p (no_swap hc), fun D Du σ H σu M rs S h c => ?_⟩
  exact q σ H σu M _ _ rs S h fun v H' u M' st S' r hq => c.nx _ _ _ _ st (rs.stp S st) S' hq
theorem ev_asg {K : Kw} {i : Nat} {t : TE} {f : WE} (q : EvE K t f) : EvS K (tAsg t (gName i)) (fun D σ M => f σ M fun x M1 => D.nx (σ.set i (some x)) M1) := fun D Du σ H σu M rs S h c => by
  exact q σ H σu M _ _ rs S h fun v H' u M' st S' r hq => c.nx _ _ _ _ st ((rs.stp S st).set r i) S' hq
theorem ss_asg {i : Nat} {x : Str} {e : Expr} {f : WE} {pos pos' : Pos} (hN : X.N.Nodup) (hi : X.N[i]? = some x) (hx : Loc X.env.scope x) (hs : swapsWith e (some (.Name x pos')) pos.line X.env = pure false) (hf : X.fn x = true) (h : SE1 X f e) :
    SS X (fun D σ M => f σ M fun x M1 => D.nx (σ.set i (some x)) M1) (.Assign [.Name x pos'] e pos) := by
  obtain ⟨t, p, q⟩ := h
  exact ⟨_, ps_set hN hi hx p hs (.inl hf), ev_asg q⟩
/-- a comprehension whose value goes to a name on its line -/
theorem ss_asgC {i : Nat} {y : Str} {tgE iter elt : Expr} {ifs : List Expr} {scope : Scope} {own : List (Str × Nat)} {tg : Tg} {fi : WI} {fc : WT} {fe : WE} {pos pos' spos : Pos} (hy : X.N[i]? = some y) (hyl : X.env.scope.names.lookup y = some .local)
    (hsw : swapsWith (.ListComp elt [⟨tgE, iter, ifs, 0⟩] scope pos) (some (.Name y pos')) spos.line X.env = pure true) (hi : SI X tgE iter fi) (h : CompOk X tgE elt ifs scope own tg fc fe) (hs : notSet iter = true) :
    SS X (fun D σ M => compW fi tg fc fe σ M fun x M1 => D.nx (σ.set i (some x)) M1) (.Assign [.Name y pos'] (.ListComp elt [⟨tgE, iter, ifs, 0⟩] scope pos) spos) := by
  obtain ⟨ti, p, q⟩ := hi
  obtain ⟨tt, h1, h2, h3, h4⟩ := h.run
  exact ⟨_, ps_setLc h.calm h.nd hy hyl hsw p h.blk h1 h2 h3 (no_set' hs), ev_asg (ev_comp q ev_cG h4 ev_cE h.own)⟩
theorem ev_lockS {K : Kw} {i j : Nat} {tgr : TG} {tg : Tg} {tt : TT} {fc : WT} {te : TE} {fe : WE} {vs : List Nat} (qg : EvG K tgr tg) (qc : EvT K tt fc) (qe : EvE K te fe) (hvs : vs = tg.slots) :
    EvS K (tLock (tAsg (tLc (L2.iKeys (tVar i)) tgr tt te vs) (gName j))) (fun D σ M => compW (keysI i) tg fc fe σ M fun x M1 => D.nx (σ.set j (some x)) M1) := fun D Du σ H σu M rs S hf c => by
  have q := ev_compK (K := K) (i := i) qg qc qe hvs σ H σu M _ (fun v H' => D.nx (σ.set j (some v)) H') rs S hf fun v H' u M' st S' r hq => c.nx _ _ _ _ st ((rs.stp S st).set r j) S' hq
  exact q
theorem ss_asgCK {i j : Nat} {y : Str} {tgE iter elt : Expr} {ifs : List Expr} {scope : Scope} {own : List (Str × Nat)} {tg : Tg} {fc : WT} {fe : WE} {pos pos' spos : Pos} (hy : X.N[j]? = some y) (hyl : X.env.scope.names.lookup y = some .local)
    (hsw : swapsWith (.ListComp elt [⟨tgE, iter, ifs, 0⟩] scope pos) (some (.Name y pos')) spos.line X.env = pure true) (hi : PE X iter (tVar i)) (h : CompOk X tgE elt ifs scope own tg fc fe) (hs : notSet iter = true) :
    SS X (fun D σ M => compW (keysI i) tg fc fe σ M fun x M1 => D.nx (σ.set j (some x)) M1) (.Assign [.Name y pos'] (.ListComp elt [⟨tgE, iter, ifs, 0⟩] scope pos) spos) := by
  obtain ⟨tt, h1, h2, h3, h4⟩ := h.run
  exact ⟨_, ps_lock (ps_setLc h.calm h.nd hy hyl hsw (pi_keys hi) h.blk h1 h2 h3 (no_set' hs)), ev_lockS ev_cG h4 ev_cE h.own⟩
theorem swapSole {e t : Expr} {l : Nat} {env : Env} (h : isComp e = false ∨ (match t with | .Name .. => false | _ => true) = true) : swapsWithSole [t] e l env = pure false := by
  show swapsWith e (some t) l env = pure false
  rcases h with h | h
  · exact no_swap h
  · cases e <;> first | rfl | (cases t <;> first | (cases h; done) | rfl)
theorem no_stores {e t : Expr} {env : Env} (h : (match e with | .Tuple .. => false | _ => true) = true ∨ (match t with | .Tuple .. => false | .List .. => false | _ => true) = true) : swappedStores [t] e env = pure none := by
  rcases h with h | h
  · cases e <;> first | (cases h; done) | (cases t <;> rfl)
  · cases t <;> first | (cases h; done) | (cases e <;> rfl)
def notTup : Expr → Bool
  | .Tuple .. => false
  | _ => true
theorem ss_asgT {is : List Nat} {es : List Expr} {ok : Str → Bool} {k : Nat} {e : Expr} {f : WE} {tpos pos : Pos} (hc : X.calm = true) (hN : X.N.Nodup) (hok : ∀ x, ok x = true → Loc X.env.scope x ∧ (X.fn x = true ∨ X.env.scope.names.lookup x = some .local)) (hn : namesB X.N ok is es = true)
    (ht : notTup e = true) (h : SE1 X f e) : SS X (fun D σ M => f σ M fun x M1 => ∃ l σ', x = .tup l ∧ setAll is l σ = some σ' ∧ D.nx σ' M1) (.Assign [.Tuple es k tpos] e pos) := by
  obtain ⟨t, p, q⟩ := h
  obtain ⟨tg, pg, qg⟩ := sg_many (k := k) (pos := tpos) hc hN hok hn
  refine ⟨_, ps_asg p pg (swapSole (.inr rfl)) (no_stores (.inl (by cases e <;> first | (cases ht; done) | rfl))) rfl, fun D Du σ H σu M rs S hf c => ?_⟩
  refine q σ H σu M _ _ rs S hf fun v H' u M' st S' r hq => ?_
  exact qg v u σ H' σu M' (fun σ' => Du.nx σ' M') _ (rs.stp S st) r hq fun σ1 σu1 rs1 hq1 _ => c.nx _ _ _ _ st rs1 S' hq1
theorem ss_asgU {is : List Nat} {es : List Expr} {ok : Str → Bool} {k : Nat} {e : Expr} {f : WE} {tpos pos : Pos} (hc : X.calm = true) (hN : X.N.Nodup) (hok : ∀ x, ok x = true → Loc X.env.scope x ∧ (X.fn x = true ∨ X.env.scope.names.lookup x = some .local)) (hn : namesB X.N ok is es = true)
    (ht : notTup e = true) (h : SE1 X f e) : SS X (fun D σ M => f σ M fun x M1 => ∃ p l σ', x = .ref p ∧ M1 p = some (.lst l) ∧ setAll is l σ = some σ' ∧ D.nx σ' M1) (.Assign [.Tuple es k tpos] e pos) := by
  obtain ⟨t, p, q⟩ := h
  obtain ⟨tt, pt, qt⟩ := sgs_names hN hok hn
  obtain ⟨l1, l2⟩ := names_each (env := X.env) hn
  refine ⟨_, ps_asg p (pg_unl hc pt l1 l2) (swapSole (.inr rfl)) (no_stores (.inl (by cases e <;> first | (cases ht; done) | rfl))) rfl, fun D Du σ H σu M rs S hf c => ?_⟩
  refine q σ H σu M _ _ rs S hf fun v H' u M' st S' r hq => ?_
  obtain ⟨p', l, σ', rfl, hm, hs, hq⟩ := hq
  obtain ⟨vs, e, rl⟩ := S' _ _ hm
  cases r
  have hlen : l.length = is.length := setAll_len is l σu σ' hs
  refine ⟨_, vs, rfl, .inl (.inl e), by rw [rl.length, hlen], ?_⟩
  exact qt _ _ _ H' _ _ _ (rs.stp S st) rl hs fun σ1 rs1 _ => c.nx _ _ _ _ st rs1 S' hq
theorem ss_setIx {o i e : Expr} {f g h : WE} {tpos pos : Pos} (hu : X.A.units + 66 < cLine) (h1 : SE1 X f e) (h2 : SE1 X g o) (h3 : SE1 X h i) (hs : notSlice i = true) :
    SS X (fun D σ M => f σ M fun v M1 => g σ M1 fun x M2 => h σ M2 fun y M3 => setW x y v M3 (D.nx σ)) (.Assign [.Subscript o i tpos] e pos) := by
  obtain ⟨t1, p1, q1⟩ := h1
  obtain ⟨t2, p2, q2⟩ := h2
  obtain ⟨t3, p3, q3⟩ := h3
  refine ⟨_, ps_asg p1 (pg_sub p2 p3 (set_S hu) (fun v => by cases i <;> first | (cases hs; done) | rfl)) (swapSole (.inr rfl)) (no_stores (.inr rfl)) rfl, fun D Du σ H σu M rs S hf c => ?_⟩
  refine q1 σ H σu M _ _ rs S hf fun v H1 u M1 st S1 r hq => ?_
  refine q2 σ H1 σu M1 _ _ (rs.stp S st) S1 hq fun v2 H2 u2 M2 st2 S2 r2 hq2 => ?_
  have s12 := st.trans S st2
  refine q3 σ H2 σu M2 _ _ (rs.stp S s12) S2 hq2 fun v3 H3 u3 M3 st3 S3 r3 hq3 => ?_
  have s13 := s12.trans S st3
  exact ⟨u2, u3, u, M3, _, S3, r2.stp S2 st3, r3, (r.stp S1 st2).stp S2 st3, hq3, fun H' M' st' S' hq' => c.nx _ _ _ _ (s13.trans S st') (rs.stp S (s13.trans S st')) S' hq'⟩
theorem ss_setF {cn f : Str} {o e : Expr} {g h : WE} {tpos pos : Pos} (cl : Cls (kwX X) (cad (kwX X) cn)) (na : NoAttr (kwX X) (cad (kwX X) cn) f) (h1 : SE1 X g e) (h2 : SE1 X h o) :
    SS X (fun D σ M => g σ M fun v M1 => h σ M1 fun x M2 => ∃ p fs, x = .ref p ∧ M2 p = some (.obj cn fs) ∧ fs.length < 1000 ∧ D.nx σ (um M2 p (.obj cn (fput f v fs)))) (.Assign [.Attribute o f tpos] e pos) := by
  obtain ⟨t1, p1, q1⟩ := h1
  obtain ⟨t2, p2, q2⟩ := h2
  refine ⟨_, ps_fld p2 p1 (show swapsWithSole [Expr.Attribute o f tpos] e pos.line X.env = pure false from swapSole (.inr rfl)), fun D Du σ H σu M rs S hf c => ?_⟩
  refine q1 σ H σu M _ _ rs S hf fun v H1 u M1 st S1 r hq => ?_
  refine q2 σ H1 σu M1 _ _ (rs.stp S st) S1 hq fun v2 H2 u2 M2 st2 S2 r2 hq2 => ?_
  obtain ⟨p, fs, rfl, hm, hl, hq2⟩ := hq2
  obtain ⟨dx, vs, e1, rf, _, nas⟩ := S2 _ _ hm
  cases r2
  have s12 := st.trans S st2
  have s3 : Stp H2 M2 (upd H2 p (.ins (cad (kwX X) cn) dx (putF f v vs))) (um M2 p (.obj cn (fput f u fs))) := Stp.mut hm
  refine ⟨p, cad (kwX X) cn, dx, vs, rfl, e1, cl, na, by rw [rf.len]; exact hl, ?_⟩
  refine c.nx _ _ _ _ (s12.trans S s3) (rs.stp S (s12.trans S s3)) (S2.mut (m := .obj cn (fput f u fs)) hm rfl ⟨dx, _, upd_same, ?_, cl, mem_putF (P := fun z => NoAttr (kwX X) (cad (kwX X) cn) z) na nas⟩) hq2
  exact RelF.put ((r.stp S1 st2).stp S2 s3) (Paired.mapR rf fun p q x => ⟨x.1, x.2.stp S2 s3⟩)
def iopOf : Bop → Option Operator
  | .add => some .Add
  | .sub => some .Sub
  | _ => none
theorem ip_S {op : Bop} {o : Operator} (h : iopOf op = some o) : PIp X o (fun x y H Q => ∃ a b, x = .int a ∧ y = .int b ∧ Q (.int (if op = .add then a + b else a - b)) H) := by
  cases op <;> first | (cases h; done) | skip
  · cases h
    exact ip_add
  · cases h
    exact ip_sub
theorem bin_int {op : Bop} {o : Operator} (h : iopOf op = some o) {a b : Int} {M : Hm} {Q : QU} (q : binW op (.int a) (.int b) M Q) : Q (.int (if op = .add then a + b else a - b)) M := by
  cases op <;> first | (cases h; done) | exact q
theorem ss_augV {i : Nat} {x : Str} {e : Expr} {f : WE} {op : Bop} {o : Operator} {pos pos' : Pos} (ho : iopOf op = some o) (hN : X.N.Nodup) (hi : X.N[i]? = some x) (hx : Loc X.env.scope x) (hf : X.fn x = true) (h : SE1 X f e) :
    SS X (fun D σ M => ∃ x, σ[i]? = some (some x) ∧ f σ M fun y M1 => ∃ a b, x = .int a ∧ y = .int b ∧ binW op x y M1 fun z M2 => D.nx (σ.set i (some z)) M2) (.AugAssign (.Name x pos') o e pos) := by
  obtain ⟨t, p, q⟩ := h
  refine ⟨_, ps_aug hN hi hx p (ip_S ho) (.inl hf), fun D Du σ H σu M rs S hf c => ?_⟩
  obtain ⟨u, hu, hf⟩ := hf
  obtain ⟨v, hv, rv⟩ := rs.2 i u hu
  refine ⟨v, hv, q σ H σu M _ _ rs S hf fun v2 H' u2 M' st S' r hq => ?_⟩
  obtain ⟨a, b, rfl, rfl, hq⟩ := hq
  have rv := rv.stp S st
  cases rv
  cases r
  exact ⟨a, b, rfl, rfl, c.nx _ _ _ _ st ((rs.stp S st).set (.int _) i) S' (bin_int ho hq)⟩
/-- o[i] by values -/
theorem get_S (hu : X.A.units + 1 < cLine) : PGet X (R2s (kwX X) getW) := by
  intro pins s σ H o i ov iv Q I ro ri h
  obtain ⟨a, b, M, Qu, S, ra, rb, hf, c⟩ := h
  unfold getW at hf
  have hn := line63
  split at hf
  · rcases hf with ⟨us, j, w, h1, rfl, e, q⟩ | ⟨z, t, ks, w, h1, h2, e, q⟩
    · cases rb
      cases ra
      obtain ⟨vs, e2, r⟩ := S _ _ h1
      obtain ⟨v1, e1, r1⟩ := ix_pure r e
      obtain rfl : ov = Value.ref _ := ro
      obtain ⟨t', rfl⟩ := ri
      obtain ⟨its, r', pl, hz⟩ := I.list (.inl (.inl e2))
      obtain ⟨k, h1, h2, h3, h4, h5⟩ := atI_get e1
      obtain ⟨w', ew, rw'⟩ := r'.get h2
      have hl := r'.length
      have fin : EP X pins σ Q w' s := ⟨v1, H, I, rw', c.at_ S r1 q⟩
      by_cases h0 : 0 ≤ j
      · have hj : j.toNat = k := by
          rw [PySem.seqIndex_of h0 h5] at h1
          exact Option.some.inj h1
        exact PySem.wpAny_getItem_list (Q := EP X pins σ Q) pl.isList h0 (by omega) (by rw [hj]; simpa using ew) fin
      · have hj : (j + (its.toArray.size : Int)).toNat = k := by
          rw [PySem.seqIndex_neg (by omega) h4] at h1
          rw [List.size_toArray, ← hl]
          exact Option.some.inj h1
        exact PySem.wpAny_getItem_list_neg (Q := EP X pins σ Q) pl.isList (by omega) (by rw [List.size_toArray] <;> omega) (by omega) (by rw [hj]; simpa using ew) fin
    · obtain ⟨o', g, q2⟩ := dget_of S h1 h2 rb
      cases ra
      obtain rfl : ov = Value.ref _ := ro
      rcases q2 with ⟨_, e2⟩ | ⟨v1, u1, e1, e2, r1⟩
      · rw [e] at e2; cases e2
      · rw [e] at e2
        cases e2
        subst e1
        exact d_getItem hu I g ri fun w' s' I' rw' => ⟨_, H, I', rw', c.at_ S r1 q⟩
  · exact hf.elim
theorem ss_augIx {o i e : Expr} {f g h : WE} {op : Bop} {oo : Operator} {tpos pos : Pos} (ho : iopOf op = some oo) (hu : X.A.units + 66 < cLine) (h1 : SE1 X f o) (h2 : SE1 X g i) (h3 : SE1 X h e) (hs : notSlice i = true) :
    SS X (fun D σ M => f σ M fun x M1 => g σ M1 fun y M2 => getW x y M2 fun v M3 => h σ M3 fun z M4 => ∃ a b, v = .int a ∧ z = .int b ∧ binW op v z M4 fun r M5 => setW x y r M5 (D.nx σ)) (.AugAssign (.Subscript o i tpos) oo e pos) := by
  obtain ⟨t1, p1, q1⟩ := h1
  obtain ⟨t2, p2, q2⟩ := h2
  obtain ⟨t3, p3, q3⟩ := h3
  refine ⟨_, ps_augS p1 p2 (get_S (by omega)) p3 (ip_S ho) (set_S hu) (fun ov iv new => by cases i <;> first | (cases hs; done) | rfl), fun D Du σ H σu M rs S hf c => ?_⟩
  refine q1 σ H σu M _ _ rs S hf fun v H1 u M1 st S1 r hq => ?_
  refine q2 σ H1 σu M1 _ _ (rs.stp S st) S1 hq fun v2 H2 u2 M2 st2 S2 r2 hq2 => ?_
  have s12 := st.trans S st2
  refine ⟨u, u2, M2, _, S2, r.stp S1 st2, r2, hq2, fun v3 H3 u3 M3 st3 S3 r3 hq3 => ?_⟩
  have s13 := s12.trans S st3
  refine q3 σ H3 σu M3 _ _ (rs.stp S s13) S3 hq3 fun v4 H4 u4 M4 st4 S4 r4 hq4 => ?_
  have s14 := s13.trans S st4
  obtain ⟨a, b, rfl, rfl, hq4⟩ := hq4
  cases r3
  cases r4
  refine ⟨a, b, rfl, rfl, ?_⟩
  have rr := ((r.stp S1 st2).stp S2 st3).stp S3 st4
  have rr2 := (r2.stp S2 st3).stp S3 st4
  exact ⟨u, u2, _, M4, _, S4, rr, rr2, .int _, bin_int ho hq4, fun H' M' st' S' hq' => c.nx _ _ _ _ (s14.trans S st') (rs.stp S (s14.trans S st')) S' hq'⟩
theorem ss_if {c0 : Expr} {a b : List Stmt} {fc : WT} {f g : WSt} {pos : Pos} (hc : ST X fc c0) (h1 : SSs X f a) (h2 : SSs X g b) : SS X (fun D σ M => fc σ M fun k M1 => if k = true then f D σ M1 else g D σ M1) (.If c0 a b pos) := by
  obtain ⟨t0, p0, q0⟩ := hc
  obtain ⟨t1, p1, q1⟩ := h1
  obtain ⟨t2, p2, q2⟩ := h2
  refine ⟨_, ps_if p0 p1 p2, fun D Du σ H σu M rs S hf c => ?_⟩
  refine q0 σ H σu M _ _ rs S hf fun k H1 M1 st S1 hq => ?_
  cases k with
  | true => exact q1 D Du σ H1 σu M1 (rs.stp S st) S1 hq (c.tr S st)
  | false => exact q2 D Du σ H1 σu M1 (rs.stp S st) S1 hq (c.tr S st)
theorem ss_whl {c0 : Expr} {b : List Stmt} {fc : WT} {f : WSt} {pos : Pos} (hx : X.xe = fun _ _ => False) (hc : ST X fc c0) (h1 : SSs X f b) :
    SS X (fun D σ M => ∃ W : Nat → SU → Hm → Prop, (∃ m, W m σ M) ∧ ∀ m σ M, W m σ M → fc σ M fun k M1 =>
      if k = true then f ⟨fun σ' M' => ∃ m', m' < m ∧ W m' σ' M', D.rt, D.nx, fun σ' M' => ∃ m', m' < m ∧ W m' σ' M'⟩ σ M1 else D.nx σ M1) (.While c0 b [] pos) := by
  obtain ⟨t0, p0, q0⟩ := hc
  obtain ⟨t1, p1, q1⟩ := h1
  refine ⟨_, ps_while (by rw [hx]; exact PassesOwn.never) p0 p1, fun D Du σ H σu M rs S hf c => ?_⟩
  obtain ⟨W, ⟨m0, w0⟩, turn⟩ := hf
  refine ⟨fun m σ2 H2 => ∃ σu2 M2, Stp H M H2 M2 ∧ RelS (kwX X) H2 σ2 σu2 ∧ Sim (kwX X) H2 M2 ∧ W m σu2 M2, ⟨m0, σu, M, Stp.refl H M, rs, S, w0⟩, ?_⟩
  rintro m σ2 H2 ⟨σu2, M2, st2, rs2, S2, w2⟩
  refine q0 σ2 H2 σu2 M2 _ _ rs2 S2 (turn m σu2 M2 w2) fun k H3 M3 st3 S3 hq => ?_
  have s3 := st2.trans S st3
  have rs3 := rs2.stp S2 st3
  cases k with
  | false => exact c.nx _ _ _ _ s3 rs3 S3 hq
  | true =>
    refine ⟨fun σ' H' => ∃ m', m' < m ∧ ∃ σu2 M2, Stp H M H' M2 ∧ RelS (kwX X) H' σ' σu2 ∧ Sim (kwX X) H' M2 ∧ W m' σu2 M2, fun _ _ z => z, ?_⟩
    have back : ContS (kwX X) H3 M3 (fun σ' M' => ∃ m', m' < m ∧ W m' σ' M') (fun σ' H' => ∃ m', m' < m ∧ ∃ σu2 M2, Stp H M H' M2 ∧ RelS (kwX X) H' σ' σu2 ∧ Sim (kwX X) H' M2 ∧ W m' σu2 M2) := fun σ' H' σu' M' st' rs' S' ⟨m', hm, w'⟩ => ⟨m', hm, σu', M', s3.trans S st', rs', S', w'⟩
    exact q1 _ _ σ2 H3 σu2 M3 rs3 S3 hq ⟨back, c.rt.tr S s3, c.nx.tr S s3, back⟩
/-- the turns of a for -/
abbrev turnW (tg : Tg) (f : WSt) (D : EndsU) (ex : (Hm → Prop) → Hm → Prop) : U → (SU → Hm → Prop) → SU → Hm → Prop := fun x nx σ M => tgW tg x σ fun σ2 => f ⟨nx, fun u M => ex (D.rt u) M, fun σ M => ex (D.nx σ) M, nx⟩ σ2 M
def forW (fi : WI) (tg : Tg) (f : WSt) : WSt := fun D σ M => fi σ M fun items g ex M1 => forL (turnW tg f D ex) g (fun σ M => ex (D.nx σ) M) items σ M1
theorem for_core {K : Kw} {tgr : TG} {tg : Tg} {tb : TS} {f : WSt} (qg : EvG K tgr tg) (qb : EvS K tb f) {σ : L2.St} {σu : SU} {H1 : Hp} {M1 : Hm} {J : It} {items : List U} {g : Hm → Prop} {ex : (Hm → Prop) → Hm → Prop} {D : Ends} {Du : EndsU}
    (rs : RelS K H1 σ σu) (S1 : Sim K H1 M1) (ok : ItOk K H1 M1 J items g) (hg0 : g M1) (hc : forL (turnW tg f Du ex) g (fun σ M => ex (Du.nx σ) M) items σu M1)
    (hnx : ContS K H1 M1 (fun σ M => ex (Du.nx σ) M) D.nx) (hend : ∀ σ' H' σu' M', Stp H1 M1 H' M' → RelS K H' σ' σu' → Sim K H' M' → g M' → ex (Du.nx σu') M' → D.nx σ' H') (hrt : Cont K H1 M1 (fun u M => ex (Du.rt u) M) D.rt) :
    ∃ W : Nat → Nat → L2.St → Hp → Prop, (∃ m, W 0 m σ H1) ∧ ∀ i m σ H, W i m σ H →
      (J.stop i H ∧ D.nx σ H) ∨ (J.go i H ∧ ∃ N : L2.St → Hp → Prop, (∀ σ' H', N σ' H' → ∃ m', m' < m ∧ W (i + 1) m' σ' H') ∧ ∀ x H', J.yld i H x H' → tgr x σ H' fun σ2 H2 => tb { D with nx := N, ct := N, bk := D.nx } σ2 H2) := by
  let W : Nat → Nat → L2.St → Hp → Prop := fun i m σ2 H2 => m = items.length - i ∧ i ≤ items.length ∧ ∃ (σu2 : SU) (M2 : Hm), Stp H1 M1 H2 M2 ∧ RelS K H2 σ2 σu2 ∧ Sim K H2 M2 ∧ g M2 ∧ forL (turnW tg f Du ex) g (fun σ M => ex (Du.nx σ) M) (items.drop i) σu2 M2
  refine ⟨W, ⟨items.length, by simp, Nat.zero_le _, σu, M1, Stp.refl H1 M1, rs, S1, hg0, hc⟩, ?_⟩
  rintro i m σ2 H2 ⟨rfl, hi, σu2, M2, st2, rs2, S2, hg, hc⟩
  obtain ⟨go, stop⟩ := ok i H2 M2 st2 S2 hg
  by_cases hlt : i < items.length
  · right
    have hu : items[i]? = some items[i] := List.getElem?_eq_getElem hlt
    obtain ⟨jgo, jy⟩ := go _ hu
    refine ⟨jgo, fun σ' H' => ∃ m', m' < items.length - i ∧ W (i + 1) m' σ' H', fun _ _ z => z, fun x H3 hy => ?_⟩
    obtain ⟨st3, S3, rx⟩ := jy x H3 hy
    have hdrop : items.drop i = items[i] :: items.drop (i + 1) := List.drop_eq_getElem_cons hlt
    rw [hdrop] at hc
    have s3 := st2.trans S1 st3
    have hc : tgW tg items[i] σu2 fun σ4 => f ⟨fun σ' M' => g M' ∧ forL (turnW tg f Du ex) g (fun σ M => ex (Du.nx σ) M) (items.drop (i + 1)) σ' M', fun u M => ex (Du.rt u) M, fun σ M => ex (Du.nx σ) M, fun σ' M' => g M' ∧ forL (turnW tg f Du ex) g (fun σ M => ex (Du.nx σ) M) (items.drop (i + 1)) σ' M'⟩ σ4 M2 := hc
    refine qg x items[i] σ2 H3 σu2 M2 _ _ (rs2.stp S2 st3) rx hc fun σ4 σu4 rs4 hb _ => ?_
    have back : ContS K H3 M2 (fun σ' M' => g M' ∧ forL (turnW tg f Du ex) g (fun σ M => ex (Du.nx σ) M) (items.drop (i + 1)) σ' M') (fun σ' H' => ∃ m', m' < items.length - i ∧ W (i + 1) m' σ' H') := fun σ' H' σu' M' st' rs' S' ⟨g', h'⟩ =>
      ⟨items.length - (i + 1), by omega, rfl, by omega, σu', M', s3.trans S1 st', rs', S', g', h'⟩
    exact qb _ _ σ4 H3 σu4 M2 rs4 S3 hb ⟨back, hrt.tr S1 s3, hnx.tr S1 s3, back⟩
  · left
    have e : i = items.length := by omega
    subst e
    have z := hc
    rw [List.drop_length] at z
    exact ⟨stop rfl, hend _ _ _ _ st2 rs2 S2 hg z⟩
theorem ss_for {tgE iter : Expr} {body : List Stmt} {tg : Tg} {fi : WI} {f : WSt} {pos : Pos} (hx : X.xe = fun _ _ => False) (hc : X.calm = true) (hi : SI X tgE iter fi) (hg : SG X tgE tg) (hb : SSs X f body) (hs : notSet iter = true) : SS X (forW fi tg f) (.For tgE iter body [] pos) := by
  obtain ⟨ti, p, q⟩ := hi
  obtain ⟨tgr, pg, qg⟩ := hg
  obtain ⟨tb, pb, qb⟩ := hb
  refine ⟨_, ps_for (by rw [hx]; exact PassesOwn.never) hc p pg pb (no_set' hs), fun D Du σ H σu M rs S hf c => ?_⟩
  refine q σ H σu M _ _ rs S hf fun J H1 items g ex M1 st S1 ok hg0 hex hq => ?_
  subst hex
  exact for_core qg qb (rs.stp S st) S1 ok hg0 hq (c.nx.tr S st) (fun σ' H' σu' M' st' rs' S' _ hn => c.nx _ _ _ _ (st.trans S st') rs' S' hn) (c.rt.tr S st)
theorem ss_forK {tgE iter : Expr} {body : List Stmt} {i : Nat} {tg : Tg} {f : WSt} {pos : Pos} (hx : X.xe = fun _ _ => False) (hc : X.calm = true) (hi : PE X iter (tVar i)) (hg : SG X tgE tg) (hb : SSs X f body) (hs : notSet iter = true) : SS X (forW (keysI i) tg f) (.For tgE iter body [] pos) := by
  obtain ⟨tgr, pg, qg⟩ := hg
  obtain ⟨tb, pb, qb⟩ := hb
  refine ⟨_, ps_lock (ps_for (by rw [hx]; exact PassesOwn.never) hc (pi_keys hi) pg pb (no_set' hs)), fun D Du σ H σu M rs S hf c => ?_⟩
  obtain ⟨j, d, t, ks, ej, hs, hm, hq⟩ := hf
  cases ej
  obtain ⟨v, hv, rv⟩ := rs.2 i _ hs
  obtain rfl : v = .ref d := by cases rv; rfl
  obtain ⟨u, hd, mu, lk⟩ := lock_stp S hm
  refine ⟨d, u, hd, mu, fun od => ?_⟩
  obtain ⟨st, S1, hu⟩ := lk od
  have hu1 := hu_stp S st hu
  refine keys_run hv S1 upd_same um_same hu1 fun J ok => ?_
  have un : ∀ {H2 : Hp} {M2 : Hm}, Stp (upd H d (.frz od u)) (um M d (.dct true t ks)) H2 M2 → Sim (kwX X) H2 M2 → M2 d = some (.dct true t ks) → _ := fun {H2 M2} st2 S2 hm2 => unlock_stp S hm upd_same um_same st S1 st2 S2 hm2 (hu_stp S1 st2 hu1)
  have nxK : ContS (kwX X) (upd H d (.frz od u)) (um M d (.dct true t ks)) (fun σ M => M d = some (.dct true t ks) ∧ Du.nx σ (um M d (.dct false t ks))) (fun σ' H' => H' d = some (.frz od u) ∧ D.nx σ' (upd H' d u)) := fun σ' H' σu' M' st' rs' S' ⟨hm', hn⟩ => by
    obtain ⟨e2, st3, S3, f1, f2⟩ := un st' S' hm'
    exact ⟨e2, c.nx _ _ _ _ st3 ⟨rs'.1, fun i u e => let ⟨v, a, b⟩ := rs'.2 i u e; ⟨v, a, f1 _ _ b⟩⟩ S3 hn⟩
  refine for_core (D := ⟨fun σ' H' => H' d = some (.frz od u) ∧ D.nx σ' (upd H' d u), fun v H' => H' d = some (.frz od u) ∧ D.rt v (upd H' d u), fun σ' H' => H' d = some (.frz od u) ∧ D.bk σ' (upd H' d u), fun σ' H' => H' d = some (.frz od u) ∧ D.ct σ' (upd H' d u)⟩) (Du := Du)
    qg qb (rs.stp S st) S1 ok um_same hq nxK (fun σ' H' σu' M' st' rs' S' _ hn => nxK _ _ _ _ st' rs' S' hn) fun v H' x M' st' S' r' ⟨hm', hr⟩ => ?_
  obtain ⟨e2, st3, S3, f1, f2⟩ := un st' S' hm'
  exact ⟨e2, c.rt _ _ _ _ st3 S3 (f1 _ _ r') hr⟩
end
end Pl

set_option maxHeartbeats 4000000
/-! a dict made of what is walked, its keys tuples within one another -/
namespace Pl
open PySem PySem.Spec PyProof.Rows L2
section
variable {X : Cx} {pins : List (Addr × Obj)} {σ : L2.St} {H : Hp} {s : Shared} {M : Hm} {A : Around} {E : Value → Shared → Prop}
theorem n_dictSet (hu : A.units + 66 < cLine) (I : L2.Inv X pins σ H s) (S : Sim (kwX X) H M) {p : Addr} {ks : List (U × U)} (hm : M p = some (.dcn ks)) (hl : ks.length < LIM) {k w : U} {v y : V} {u x : Value} (hk : isKeyN k = true) (r : Rel (kwX X) H v k) (rv : RelV v u) (ry : RelV y x) (rw' : Rel (kwX X) H y w) {Q : Unit → Shared → Prop}
    (q : ∀ H' s', L2.Inv X pins σ H' s' → Stp H M H' (um M p (.dcn (dput ks k w))) → Sim (kwX X) H' (um M p (.dcn (dput ks k w))) → Q () s') : wpAny (model X.prog X.w) A (dictSet p u x) Q E s := by
  obtain ⟨xs, e, rn, dd, hs, hz⟩ := dcn_of I S hm
  obtain ⟨a, rfl⟩ := keyN_ref hk r
  obtain rfl : u = Value.ref a := rv
  refine wpAny_dictSet_heap (knd := nestedKind X.prog X.w) (show A.units + 8 < cLine by omega) (keyN_is I.hok hk r) dd (fun h' dd' sb => ?_) hz
  obtain ⟨o, es, ep, h1, h2, h3, h4, h5, h6⟩ := dd'
  have hd : dcnP X.w p (storedH xs (nk k) a x) h' := ⟨o, es, ep, h1, h2, h3, h4, h6⟩
  have I2 : L2.Inv X pins σ (upd H p (.ext (dcnP X.w p (storedH xs (nk k) a x)))) { heap := h', gens := s.gens, drawn := s.drawn, toks := s.toks + (nestedKind X.prog X.w).draws (nk k), os := s.os } :=
    d_write (t' := s.toks + (nestedKind X.prog X.w).draws (nk k)) I (by rw [e]; trivial) sb ⟨o, h1⟩ (dcn_ok hd)
  have st : Stp H M (upd H p (.ext (dcnP X.w p (storedH xs (nk k) a x)))) (um M p (.dcn (dput ks k w))) := Stp.mut hm
  have rn2 : RelN (kwX X) (upd H p (.ext (dcnP X.w p (storedH xs (nk k) a x)))) (storedH xs (nk k) a x) (dput ks k w) := RelN.put (Paired.mapR rn fun p q x => ⟨⟨x.1.1, x.1.2.1, x.1.2.2.stp S st⟩, x.2.elim fun v y => ⟨v, y.1, y.2.stp S st⟩⟩) hk (r.stp S st) ry (rw'.stp S st)
  have hz2 : (storedH xs (nk k) a x).length ≤ sizeLine := by
    have h1 : (dput ks k w).length ≤ ks.length + 1 := by
      unfold dput
      split
      · rw [List.length_map]; omega
      · rw [List.length_append]; exact Nat.le_refl _
    rw [rn2.len]
    have := lim_line
    omega
  exact q _ _ I2 st (S.mut (m := .dcn (dput ks k w)) hm rfl ⟨_, upd_same, rn2, hs, hz2⟩)
end
def DSetN (K : Kw) (D : Addr) (y z : V) (H : Hp) (Nx : Hp → Prop) : Prop := ∃ M ks k w, Sim K H M ∧ M D = some (.dcn ks) ∧ ks.length < LIM ∧ isKeyN k = true ∧ Rel K H y k ∧ Rel K H z w ∧
  ∀ H', Stp H M H' (um M D (.dcn (dput ks k w))) → Sim K H' (um M D (.dcn (dput ks k w))) → Nx H'
def tDcN (K : Kw) (wi : TI) (g : TG) (tt : TT) (tk tv : TE) (vs : List Nat) : TE := fun σ H Q => wi σ H fun J H1 => ∀ D, H1 D = none → (D == sysModules) = false → ∃ W : Nat → Nat → Hp → Prop, (∃ m, W 0 m (upd H1 D (.ext (dcnP K.2 D [])))) ∧ ∀ i m H, W i m H →
  (J.stop i H ∧ Q (.ref D) H) ∨ (J.go i H ∧ ∃ Nx : Hp → Prop, (∀ H', Nx H' → ∃ m', m' < m ∧ W (i + 1) m' H') ∧ ∀ x H', J.yld i H x H' → g x (L2.wipe σ vs) H' fun σ2 H2 => L2.wipe σ2 vs = L2.wipe σ vs ∧ tt σ2 H2 fun b H3 =>
    if b = true then tk σ2 H3 fun y H4 => tv σ2 H4 fun z H5 => DSetN K D y z H5 Nx else Nx H3)
section
variable {X : Cx}
theorem dcn_core {pins : List (Addr × Obj)} {s : Shared} {σ : L2.St} {H : Hp} {Q : VK} {kx vx tg iter : Expr} {ifs : List Expr} {scope : Scope} {own : List (Str × Nat)} {pos pos' : Pos} {wi : TI} {g : TG} {tt : TT} {tk tv : TE} {use : Option (Value → Sem Unit)} {Qf : Value → Shared → Prop}
    (hu : X.A.units + 66 < cLine) (hc : X.calm = true) (hN : X.N.Nodup) (I : L2.Inv X pins σ H s) (hi : PI X tg iter wi) (ok : BlkOk X.N X.env.scope scope own)
    (hg : ∀ (s : Shared) (H : Hp) (C : Addr) (cl : List (Str × Addr)) (fp : List Addr), PG (X.blk s H scope (compEnvC scope cl C X.env) fp) tg g) (ht : ∀ (s : Shared) (H : Hp) (C : Addr) (cl : List (Str × Addr)) (fp : List Addr), PTs (X.blk s H scope (compEnvC scope cl C X.env) fp) ifs tt)
    (hk : ∀ (s : Shared) (H : Hp) (C : Addr) (cl : List (Str × Addr)) (fp : List Addr), PE (X.blk s H scope (compEnvC scope cl C X.env) fp) kx tk)
    (he : ∀ (s : Shared) (H : Hp) (C : Addr) (cl : List (Str × Addr)) (fp : List Addr), PE (X.blk s H scope (compEnvC scope cl C X.env) fp) vx tv) (hs : ∀ x, foldedSetIterable iter X.env x = pure x)
    (h : tDcN (kwX X) wi g tt tk tv (own.map (·.2)) σ H Q)
    (hRR : ∀ D C s' m H', L2.Inv X pins σ H' s' → Q (.ref D) H' → s'.heap.Ns C m → FpOk X pins H' C → compPost (model X.prog X.w) X.A X.xe use Qf (.ref D) C (.ok .next) s') :
    wpAny (model X.prog X.w) X.A (comprehension (.DictComp kx vx [⟨tg, iter, ifs, 0⟩] scope pos) scope X.env pos' newDict false (eval iter X.env) use) Qf X.xe s := by
  have hfree : ∀ y ∈ scope.names, y.2 = .free → ∃ c, X.env.cells.lookup y.1 = some c := fun y hy e => by
    rcases ok.free y hy e with k | k
    · exact I.ok.has _ (.inl k)
    · exact I.ok.has _ (.inr k)
  refine wpAny_comprehension_free (use := use) rfl hs (closure_ok hfree) ok.kind (fun y hy e => by rw [ok.uniq y hy, e])
    (thn (hi.run pins s σ H _ I h) fun xv s1 hx => thn hx fun itv s2 h2 => ?_)
  obtain ⟨it, fp, tn, J, H2, e, I2, T, st2, f2, q⟩ := h2
  subst e
  refine wpAny_newObj_type (newEnv_comp ?_)
  generalize hD : s2.heap.objs.size = D
  have hDn : H2 D = none := I2.hok.fresh (Nat.le_of_eq hD)
  have hDs : (D == sysModules) = false := by
    obtain ⟨_, z, _⟩ := dt_empty (P := X.prog) (w := X.w) (H := H2) s2.heap I2.big
    rw [← hD]
    exact z
  obtain ⟨W, ⟨m0, w0⟩, turn⟩ := q D hDn hDs
  generalize hs3 : ({ s2 with heap := s2.heap.push { cls := .type "dict", data := .dict #[] } } : Shared) = s3
  have I3 : L2.Inv X pins σ (upd H2 D (.ext (dcnP X.w D []))) s3 := by
    rw [← hs3, ← hD]
    exact I2.laid (t' := s2.toks) (fun b o e => Heap.get?_push_of_some _ e) (Nat.le_refl _) (dcn_ok ⟨_, #[], _, Heap.get?_push_size _ rfl, ⟨rfl, rfl, rfl⟩, rfl, rfl, List.nodup_nil⟩)
  have h3 : s3.heap = s2.heap.push { cls := .type "dict", data := .dict #[] } := by rw [← hs3]
  have sz : ∀ b ∈ fp, b < s2.heap.objs.size := fun b hb => by
    obtain ⟨o, e, _⟩ := T.obj _ _ st2 b hb
    exact Heap.lt_size e
  have f3 : ∀ b ∈ fp, FpOk X pins (upd H2 D (.ext (dcnP X.w D []))) b ∧ b < s3.heap.objs.size := fun b hb => by
    have hlt := sz b hb
    refine ⟨⟨?_, (f2 b hb).2⟩, by rw [h3, Heap.size_push]; exact Nat.lt_succ_of_lt hlt⟩
    rw [upd_ne (by rw [← hD]; exact Nat.ne_of_lt hlt)]
    exact (f2 b hb).1
  have st3 : tn 0 s3.heap := T.keep _ _ _ st2 fun b _ o e => by rw [h3]; exact Heap.get?_push_of_some _ e
  have I4 := block_start I3 ok hN f3
  generalize hH3 : upd H2 D (.ext (dcnP X.w D [])) = H3 at *
  have pg := hg s3 H3 s3.heap.objs.size (cellsFrom (s3.heap.objs.size + 1) scope.names (cloFrom X.env.cells scope.names [])) fp
  have pt := ht s3 H3 s3.heap.objs.size (cellsFrom (s3.heap.objs.size + 1) scope.names (cloFrom X.env.cells scope.names [])) fp
  have pk := hk s3 H3 s3.heap.objs.size (cellsFrom (s3.heap.objs.size + 1) scope.names (cloFrom X.env.cells scope.names [])) fp
  have pe := he s3 H3 s3.heap.objs.size (cellsFrom (s3.heap.objs.size + 1) scope.names (cloFrom X.env.cells scope.names [])) fp
  show codeAny _ _ (.compStart (.DictComp kx vx [⟨tg, iter, ifs, 0⟩] scope pos) 0 (.ref it) (.ref D) (compEnvC scope (cellsFrom (s3.heap.objs.size + 1) scope.names (cloFrom X.env.cells scope.names [])) s3.heap.objs.size X.env)) (compPost (model X.prog X.w) X.A X.xe use Qf (.ref D) s3.heap.objs.size) { s3 with heap := pushCells (s3.heap.push { cls := .type "dict", data := .dict #[] }) scope.names }
  have nfp : ∀ b ∈ fp, H3 b = none := fun b hb => (f3 b hb).1.1
  generalize hce : compEnvC scope (cellsFrom (s3.heap.objs.size + 1) scope.names (cloFrom X.env.cells scope.names [])) s3.heap.objs.size X.env = ce at I4 pg pt pk pe ⊢
  have cL : ce.locals = s3.heap.objs.size := by subst hce; rfl
  generalize hs4 : ({ s3 with heap := pushCells (s3.heap.push { cls := .type "dict", data := .dict #[] }) scope.names } : Shared) = s4 at I4 ⊢
  have st4 : tn 0 s4.heap := T.keep _ _ _ st3 fun b _ o e => by rw [← hs4]; exact pushCells_keeps _ _ _ _ (Heap.get?_push_of_some _ e)
  have stat : ∀ {σ' : L2.St} {H' : Hp} {s' : Shared}, L2.Inv (X.blk s3 H3 scope ce fp) [] σ' H' s' → (∀ b ∈ fp, H' b = none) → ∀ b ∈ fp, FpOk (X.blk s3 H3 scope ce fp) [] H' b := fun {σ' H' s'} I' hn b hb =>
    ⟨hn b hb, (I'.ok.exf b hb).1, I'.ok.exfs b hb, .inl hb, fun x c e => (I'.ok.exf b hb).2 x c e, fun p hp => absurd (show p ∈ ([] : List (Addr × Obj)) ++ [] from hp) (by simp)⟩
  have loop : codeAny (model X.prog X.w) X.A (.compLoop (.DictComp kx vx [⟨tg, iter, ifs, 0⟩] scope pos) 0 (.ref it) (.ref D) ce) (compPost (model X.prog X.w) X.A X.xe use Qf (.ref D) s3.heap.objs.size) s4 := by
    refine compLoop_anyD (fun n s' => ∃ i H', L2.Inv (X.blk s3 H3 scope ce fp) [] (L2.wipe σ (own.map (·.2))) H' s' ∧ tn i s'.heap ∧ (∀ b ∈ fp, H' b = none) ∧ W i n H') ?_ m0 ⟨0, H3, I4, st4, nfp, w0⟩
    rintro n s5 ⟨i, H5, I5, st5, n5, w5⟩
    rcases turn i n H5 w5 with ⟨stop, qq⟩ | ⟨go, Nx, hNx, step⟩
    · have td := T.done (X.blk s3 H3 scope ce fp) rfl rfl rfl hc i [] s5 _ H5 (fun _ _ => False) I5 (stat I5 n5) st5 stop
      refine thnF td fun r s6 ⟨hr, I6⟩ => ?_
      subst hr
      have I7 : L2.Inv X pins σ H5 s6 := I3.call' (ch := fp) I6.os I6.base I6.hok I6.bare fun b hb => ⟨(f3 b hb).1.2.2.2.1, (f3 b hb).1.2.1, (f3 b hb).1.2.2.2.2.1, (f3 b hb).1.2.2.2.2.2⟩
      have nC : H5 s3.heap.objs.size = none := by
        have z : H5 ce.locals = none := I6.free
        rw [cL] at z
        exact z
      obtain ⟨m, hn, _⟩ := I6.loc
      have hn : s6.heap.Ns ce.locals m := hn
      rw [cL] at hn
      exact hRR D s3.heap.objs.size s6 m H5 I7 qq hn (I3.fpOk (Nat.le_refl _) nC)
    · have ti := T.item (X.blk s3 H3 scope ce fp) rfl rfl rfl hc i [] s5 _ H5 (fun _ _ => False) I5 (stat I5 n5) st5 go
      refine thnF ti fun r s6 ⟨u, hr, h6⟩ => ?_
      subst hr
      refine thnF h6 fun _ s7 ⟨x, H7, I7, r7, y7, st7, n7⟩ => ?_
      have I7' := I7.pinned (stat I7 n7) (T.obj _ _ st7)
      refine thnF (pg.run _ s7 _ H7 x u _ I7' r7 (step x H7 y7)) fun _ s8 ⟨σ8, H8, I8, hw8, q8⟩ => ?_
      refine thnF (pt.run _ s8 σ8 H8 _ I8 q8) fun b s9 ⟨H9, I9, q9⟩ => ?_
      have fin : ∀ {s' : Shared} {H' : Hp}, L2.Inv (X.blk s3 H3 scope ce fp) ([] ++ pinsAt fp s7.heap) σ8 H' s' → Nx H' → ∃ m, m < n ∧ ∃ i H', L2.Inv (X.blk s3 H3 scope ce fp) [] (L2.wipe σ (own.map (·.2))) H' s' ∧ tn i s'.heap ∧ (∀ b ∈ fp, H' b = none) ∧ W i m H' := fun {s' H'} I' nx => by
        obtain ⟨m', hm, w'⟩ := hNx H' nx
        have pin' : ∀ b ∈ fp, ∀ o, s7.heap.get? b = some o → s'.heap.get? b = some o ∧ H' b = none := fun b hb o e =>
          let z := I'.pin (b, o) (List.mem_append_right _ (List.mem_append_right _ (mem_pinsAt hb e)))
          ⟨z.1, z.2.1⟩
        have hl : (L2.wipe σ (own.map (·.2))).length = σ8.length := by rw [← hw8, L2.wipe_length]
        refine ⟨m', hm, i + 1, H', (I'.unpinned (pins := [])).weak hl (fun j v e => ?_), T.keep _ _ _ st7 fun b hb o e => (pin' b hb o e).1, fun b hb => ?_, w'⟩
        · rw [← hw8] at e
          exact (L2.wipe_some e).1
        · obtain ⟨o, e, _⟩ := T.obj _ _ st7 b hb
          exact (pin' b hb o e).2
      cases b with
      | false =>
        simp only [Bool.false_eq_true, if_false] at q9 ⊢
        exact fin I9 q9
      | true =>
        simp only [if_true] at q9 ⊢
        refine thnF (pk.run _ s9 σ8 H9 _ I9 q9) fun z s10 ⟨yk, H10, I10, r10, q10⟩ => ?_
        refine thnF (pe.run _ s10 σ8 H10 _ I10 q10) fun z2 s11 ⟨yv, H11, I11, r11, M, ks, k, w, S, hM, hl, hk, ry, rz, nx⟩ => ?_
        exact n_dictSet (X := X.blk s3 H3 scope ce fp) hu I11 S hM hl hk ry r10 r11 rz fun H12 s12 I12 st12 S12 => fin I12 (nx H12 st12 S12)
  exact codeAny_compStart_dict loop (T.self X.A 0 _ _ _ st4 loop)
theorem pe_dcN {kx vx tg iter : Expr} {ifs : List Expr} {scope : Scope} {own : List (Str × Nat)} {pos : Pos} {wi : TI} {g : TG} {tt : TT} {tk tv : TE} (hu : X.A.units + 66 < cLine) (hc : X.calm = true) (hN : X.N.Nodup) (hi : PI X tg iter wi) (ok : BlkOk X.N X.env.scope scope own)
    (hg : ∀ (s : Shared) (H : Hp) (C : Addr) (cl : List (Str × Addr)) (fp : List Addr), PG (X.blk s H scope (compEnvC scope cl C X.env) fp) tg g) (ht : ∀ (s : Shared) (H : Hp) (C : Addr) (cl : List (Str × Addr)) (fp : List Addr), PTs (X.blk s H scope (compEnvC scope cl C X.env) fp) ifs tt)
    (hk : ∀ (s : Shared) (H : Hp) (C : Addr) (cl : List (Str × Addr)) (fp : List Addr), PE (X.blk s H scope (compEnvC scope cl C X.env) fp) kx tk)
    (he : ∀ (s : Shared) (H : Hp) (C : Addr) (cl : List (Str × Addr)) (fp : List Addr), PE (X.blk s H scope (compEnvC scope cl C X.env) fp) vx tv) (hs : ∀ x, foldedSetIterable iter X.env x = pure x) :
    PE X (.DictComp kx vx [⟨tg, iter, ifs, 0⟩] scope pos) (tDcN (kwX X) wi g tt tk tv (own.map (·.2))) := by
  refine ⟨fun pins s σ H Q I h => ?_⟩
  rw [arm_eval_DictComp]
  refine dcn_core hu hc hN I hi ok hg ht hk he hs h fun D C s' m H' I' q hn f => ⟨m, hn, fun h'' sb => ?_⟩
  obtain ⟨f0, f1, f2, f3, f4, f5⟩ := f
  exact ⟨.ref D, H', I'.turned (t' := s'.toks) (fun b o hb e => (sb.2 b hb).trans e) f0 f1 f3 f4 f5, rfl, q⟩
end
theorem ev_dcompN {K : Kw} {ti : TI} {fi : WI} {tgr : TG} {tg : Tg} {tt : TT} {fc : WT} {tk tv : TE} {fk fv : WE} {vs : List Nat} (qi : EvI K ti fi) (qg : EvG K tgr tg) (qc : EvT K tt fc) (qk : EvE K tk fk) (qv : EvE K tv fv) (hvs : vs = tg.slots) :
    EvE K (tDcN K ti tgr tt tk tv vs) (dcompW fi tg fc fk fv) := fun σ H σu M Qu Q rs S hf c => by
  refine qi σ H σu M _ _ rs S hf fun J H1 items g ex M1 st S1 ok hg0 hex hq => ?_
  subst hex
  intro D hD hDs
  obtain ⟨hg1, hc⟩ := hq D (S1.fr hD)
  have S2 : Sim K (upd H1 D (.ext (dcnP K.2 D []))) (um M1 D (.dcn [])) := S1.new (m := .dcn []) hD ⟨[], upd_same, .nil, hDs, Nat.zero_le _⟩
  have st2 : Stp H1 M1 (upd H1 D (.ext (dcnP K.2 D []))) (um M1 D (.dcn [])) := Stp.new S1 hD
  let W : Nat → Nat → Hp → Prop := fun i m H2 => m = items.length - i ∧ i ≤ items.length ∧ ∃ M2, Stp H1 M1 H2 M2 ∧ Sim K H2 M2 ∧ g M2 ∧ dcompL (dstepW tg fc fk fv σu D) g (fun M => Qu (.ref D) M) (items.drop i) M2
  refine ⟨W, ⟨items.length, by simp, Nat.zero_le _, _, st2, S2, hg1, hc⟩, ?_⟩
  rintro i m H2 ⟨rfl, hi, M2, st3, S3, hg, hc⟩
  obtain ⟨go, stop⟩ := ok i H2 M2 st3 S3 hg
  by_cases hlt : i < items.length
  · right
    have hu : items[i]? = some items[i] := List.getElem?_eq_getElem hlt
    obtain ⟨jgo, jy⟩ := go _ hu
    refine ⟨jgo, fun H' => ∃ m', m' < items.length - i ∧ W (i + 1) m' H', fun H' h => h, fun x H3 hy => ?_⟩
    obtain ⟨st4, S4, rx⟩ := jy x H3 hy
    rw [List.drop_eq_getElem_cons hlt] at hc
    have hc : tgW tg items[i] (wipU σu tg.slots) fun σ2 => fc σ2 M2 fun b M3 => if b = true then fk σ2 M3 fun y M4 => fv σ2 M4 fun z M5 => dsetN D y z M5 (fun M' => g M' ∧ dcompL (dstepW tg fc fk fv σu D) g (fun M => Qu (.ref D) M) (items.drop (i + 1)) M') else (g M3 ∧ dcompL (dstepW tg fc fk fv σu D) g (fun M => Qu (.ref D) M) (items.drop (i + 1)) M3) := hc
    have rs3 : RelS K H3 (L2.wipe σ vs) (wipU σu tg.slots) := by
      rw [hvs]
      exact ((rs.stp S st).stp S1 (st3.trans S1 st4)).wipe _
    refine qg x items[i] (L2.wipe σ vs) H3 (wipU σu tg.slots) M2 _ _ rs3 rx hc fun σ4 σu4 rs4 hc4 hw => ?_
    refine ⟨by
      have e := hw vs (by rw [hvs]; exact fun i hi => hi)
      rw [e]
      exact wipe_wipe σ vs, ?_⟩
    refine qc σ4 H3 σu4 M2 _ _ rs4 S4 hc4 fun b H5 M5 st5 S5 hb => ?_
    have stA : Stp H1 M1 H5 M5 := (st3.trans S1 st4).trans S1 st5
    cases b with
    | false =>
      obtain ⟨g5, hrest⟩ := hb
      exact ⟨_, by omega, rfl, by omega, M5, stA, S5, g5, hrest⟩
    | true =>
      refine qk σ4 H5 σu4 M5 _ _ (rs4.stp S4 st5) S5 hb fun y H6 uy M6 st6 S6 ry hk => ?_
      refine qv σ4 H6 σu4 M6 _ _ ((rs4.stp S4 st5).stp S5 st6) S6 hk fun z H7 uz M7 st7 S7 rz hk2 => ?_
      obtain ⟨ks, h1, h2, h3, g7, hrest⟩ := hk2
      exact ⟨M7, ks, uy, uz, S7, h1, h3, h2, ry.stp S6 st7, rz, fun H8 st8 S8 => ⟨_, by omega, rfl, by omega, _, ((stA.trans S1 st6).trans S1 st7).trans S1 st8, S8, g7, hrest⟩⟩
  · left
    have e : i = items.length := by omega
    subst e
    rw [List.drop_length] at hc
    exact ⟨stop rfl, c (.ref D) H2 (.ref D) M2 (st.trans S st3) S3 (.ref D) hc⟩
section
variable {X : Cx}
theorem se_dcompN {tgE iter kx vx : Expr} {ifs : List Expr} {scope : Scope} {own : List (Str × Nat)} {tg : Tg} {fi : WI} {fc : WT} {fk fv : WE} {pos : Pos} (hu : X.A.units + 66 < cLine) (hi : SI X tgE iter fi) (h : CompOk X tgE kx ifs scope own tg fc fk) (h2 : CompOk X tgE vx ifs scope own tg fc fv) (hs : notSet iter = true) :
    SE1 X (dcompW fi tg fc fk fv) (.DictComp kx vx [⟨tgE, iter, ifs, 0⟩] scope pos) := by
  obtain ⟨ti, p, q⟩ := hi
  obtain ⟨tt, h1, h2', h3, h4⟩ := h.run
  exact ⟨_, pe_dcN hu h.calm h.nd p h.blk h1 h2' h3 (fun s H C cl fp => (h2.e s H C cl fp).pe) (no_set' hs), ev_dcompN q ev_cG h4 ev_cE ev_cE h.own⟩
end
end Pl

set_option maxHeartbeats 4000000
/-! the check of a text against the small syntax, and what it is worth -/
namespace Pl
open PySem L2
structure Ck where
  sc : Scope
  N : List Str
  T : List Df
  cs : List Cd := []
  ks : List (Str × Int) := []
  ss : List (Str × Str) := []
def visB (sc : Scope) (x : Str) : Bool := match sc.names.lookup x with
  | some .local => true
  | some .cell => true
  | some .free => true
  | _ => false
def locB (sc : Scope) (x : Str) : Bool := match sc.names.lookup x with
  | some .local => true
  | some .cell => true
  | _ => false
def ownB (sc : Scope) (x : Str) : Bool := match sc.names.lookup x with
  | some .local => true
  | _ => false
def glB (sc : Scope) (x : Str) : Bool := match sc.names.lookup x with
  | some .globalImplicit => true
  | _ => false
def okN (x : Str) : Bool := !(x == ("__debug__" : Str)) && !(x == ("__classdict__" : Str)) && !(x == ("__name__" : Str))
def varB (c : Ck) (i : Nat) (x : Str) : Bool := decide (c.N[i]? = some x) && visB c.sc x && okN x
def bfnN : Bfn → Str
  | .len => "len" | .list => "list" | .tuple => "tuple" | .int => "int" | .abs => "abs" | .max => "max" | .min => "min" | .sorted => "sorted" | .sum => "sum" | .all => "all" | .any => "any" | .tupd => "tuple" | .dict => "dict" | _ => ""
def bltNames : List Str := ["len", "list", "tuple", "int", "abs", "max", "min", "range", "isinstance", "str", "bool", "sorted", "enumerate", "sum", "all", "any", "zip", "set", "dict", "reversed"]
def isKeysE : E → Bool
  | .iKeys _ => true
  | _ => false
def isEn : E → Bool
  | .iEnum _ => true
  | _ => false
def isTupE : Expr → Bool
  | .Tuple _ _ _ => true
  | _ => false
/-- enumerate wants a target of several names -/
def enOk (it : E) (g : Expr) : Bool := !isEn it || isTupE g
def ckTg (tg : Tg) (N : List Str) (ok : Str → Bool) : Expr → Bool
  | .Name x _ => (match tg with | .one i => decide (N[i]? = some x) && ok x | _ => false)
  | .Tuple es _ _ => (match tg with | .many is => namesB N ok is es | _ => false)
  | _ => false
def gFn (c : Ck) (f n : Nat) (x : Str) : Bool := (match c.T[f]? with | some d => decide (d.cls = none) && (decide (d.name = x) && decide (d.ps.length = n)) | none => false) && (glB c.sc x && okN x)
def gBl (c : Ck) (n x : Str) : Bool := decide (x = n) && (glB c.sc x && okN x)
def hasMeth (c : Ck) (cn m : Str) (f : Nat) : Bool := c.cs.any fun cd => decide (cd.name = cn) && cd.mets.any fun p => decide (p = (m, f))
def hasProp (c : Ck) (cn m : Str) (f : Nat) : Bool := c.cs.any fun cd => decide (cd.name = cn) && cd.prps.any fun p => decide (p = (m, f))
def hasInit (c : Ck) (cn : Str) (f : Nat) : Bool := c.cs.any fun cd => decide (cd.name = cn) && decide (cd.init = some f)
def hasFld (c : Ck) (cn f : Str) : Bool := c.cs.any fun cd => decide (cd.name = cn) && cd.flds.any fun g => decide (g = f)

mutual
def ckE : E → Ck → Expr → Bool
  | .var i, c, e => (match e with | .Name x _ => varB c i x | _ => false)
  | .int i, _, e => (match e with | .Constant (.int j) _ _ => decide (i = j) | _ => false)
  | .str i, _, e => (match e with | .Constant (.str j) _ _ => decide (i = j) | _ => false)
  | .bl i, _, e => (match e with | .Constant (.bool j) _ _ => decide (i = j) | _ => false)
  | .non, _, e => (match e with | .Constant .none _ _ => true | _ => false)
  | .nil, _, _ => false
  | .cons _ _, _, _ => false
  | .tup es, c, e => (match e with | .Tuple xs _ _ => ckL es c xs | _ => false)
  | .dtup es, c, e => (match e with | .Tuple xs _ _ => ckL es c xs | _ => false)
  | .lst es, c, e => (match e with | .List xs _ => ckL es c xs | _ => false)
  | .dnew _, _, e => (match e with | .Dict [] [] _ => true | _ => false)
  | .dnewN, _, e => (match e with | .Dict [] [] _ => true | _ => false)
  | .bin op a b, c, e => (match e with | .BinOp x o y _ => decide (o = bopOf op) && (ckE a c x && ckE b c y) | _ => false)
  | .neg a, c, e => (match e with | .UnaryOp .USub x _ => ckE a c x | _ => false)
  | .cmp op a b, c, e => (match e with | .Compare x [o] [y] _ => decide (o = copOf op) && (!behindInMarks o y && (ckE a c x && ckE b c y)) | _ => false)
  | .chain o1 o2 a b d, c, e => (match e with | .Compare x [p, q] [y, z] _ => decide (p = copOf o1) && (decide (q = copOf o2) && (!lastMarks [p, q] [y, z] && (ckE a c x && (ckE b c y && ckE d c z)))) | _ => false)
  | .isN a, c, e => (match e with | .Compare x [.Is] [.Constant .none _ _] _ => ckE a c x | _ => false)
  | .notN a, c, e => (match e with | .Compare x [.IsNot] [.Constant .none _ _] _ => ckE a c x | _ => false)
  | .isB neg b a, c, e => (match e with | .Compare x [o] [.Constant (.bool b') _ _] _ => decide (o = if neg then CmpOp.IsNot else CmpOp.Is) && (decide (b' = b) && ckE a c x) | _ => false)
  | .ands es, c, e => (match e with | .BoolOp .And xs _ => !xs.isEmpty && ckL es c xs | _ => false)
  | .ors es, c, e => (match e with | .BoolOp .Or xs _ => !xs.isEmpty && ckL es c xs | _ => false)
  | .not a, c, e => (match e with | .UnaryOp .Not x _ => ckE a c x | _ => false)
  | .ite d a b, c, e => (match e with | .IfExp x y z _ => ckE d c x && (ckE a c y && ckE b c z) | _ => false)
  | .slice a lo hi, c, e => (match e with
    | .Subscript x (.Slice l h none _) _ => ckE a c x && ((match l with | none => isNil lo | some y => !isNil lo && ckE lo c y) && (match h with | none => isNil hi | some y => !isNil hi && ckE hi c y))
    | _ => false)
  | .dget o k d, c, e => (match e with | .Call (.Attribute y a apos) [u, v] [] pos => decide (a = "get") && ((apos.endLine == pos.line) && (notSup y && (!isStar u && (!isStar v && (ckE o c y && (ckE k c u && ckE d c v)))))) | _ => false)
  | .dget1 o k, c, e => (match e with | .Call (.Attribute y a apos) [u] [] pos => decide (a = "get") && ((apos.endLine == pos.line) && (notSup y && (!isStar u && (ckE o c y && ckE k c u)))) | _ => false)
  | .ix a i, c, e => (match e with | .Subscript x y _ => notSlice y && (ckE a c x && ckE i c y) | _ => false)
  | .call f es, c, e => (match e with | .Call (.Name x _) xs [] _ => gFn c f xs.length x && ckL es c xs | _ => false)
  | .blt f es, c, e => (match e with | .Call (.Name x _) xs [] _ => gBl c (bfnN f) x && ((bfnV f).isSome && (!xs.isEmpty && ckL es c xs)) | _ => false)
  | .mth m o es, c, e => (match e with
    | .Call (.Attribute y a apos) xs [] pos => (match mfnT m with | some t => decide (a = t.2.1) | none => false) && ((apos.endLine == pos.line) && (notSup y && (decide (xs.length < 10) && (ckE o c y && ckL es c xs))))
    | _ => false)
  | .isinst a t, c, e => (match e with | .Call (.Name x _) [y, .Name z _] [] _ => gBl c "isinstance" x && (gBl c (Str.ofString t) z && (tyOk t && (!isStar y && ckE a c y))) | _ => false)
  | .comp own tg it cnd elt, c, e => (match e with
    | .ListComp x [⟨g, itx, ifs, is_⟩] scope _ => decide (is_ = 0) && ((enOk it g && ckI it c itx) && (notSet itx && (blkC c.N c.sc scope own && (decide (own.map (·.2) = tg.slots) && (ckTg tg c.N (ownB (relS scope c.sc)) g &&
        ((match ifs with | [] => isNil cnd | [i] => !isNil cnd && ckE cnd { c with sc := relS scope c.sc } i | _ => false) && ckE elt { c with sc := relS scope c.sc } x))))))
    | _ => false)
  | .dcompN own tg it cnd k v, c, e => (match e with
    | .DictComp x y [⟨g, itx, ifs, is_⟩] scope _ => decide (is_ = 0) && ((enOk it g && ckI it c itx) && ((match it with | .iKeys _ => false | _ => true) && (notSet itx && (blkC c.N c.sc scope own && (decide (own.map (·.2) = tg.slots) && (ckTg tg c.N (ownB (relS scope c.sc)) g &&
        ((match ifs with | [] => isNil cnd | [i] => !isNil cnd && ckE cnd { c with sc := relS scope c.sc } i | _ => false) && (ckE k { c with sc := relS scope c.sc } x && ckE v { c with sc := relS scope c.sc } y))))))))
    | _ => false)
  | .fld f o, c, e => (match e with | .Attribute y a _ => decide (a = f) && (notSup y && ckE o c y) | _ => false)
  | .meth cn m f o es, c, e => (match e with
    | .Call (.Attribute y a apos) xs [] pos => decide (a = m) && (hasMeth c cn m f && ((c.T[f]?).isSome && ((apos.endLine == pos.line) && (notSup y && (decide (xs.length < 10) && (ckE o c y && ckL es c xs))))))
    | _ => false)
  | .make cn f es, c, e => (match e with | .Call (.Name x _) xs [] _ => decide (x = cn) && (hasInit c cn f && ((c.T[f]?).isSome && ((glB c.sc x && okN x) && ckL es c xs))) | _ => false)
  | .prop cn m f o, c, e => (match e with | .Attribute y a _ => decide (a = m) && (hasProp c cn m f && ((c.T[f]?).isSome && (notSup y && ckE o c y))) | _ => false)
  | .setdef o k d, c, e => (match e with | .Call (.Attribute y a apos) [u, v] [] pos => decide (a = "setdefault") && ((apos.endLine == pos.line) && (notSup y && (!isStar u && (!isStar v && (ckE o c y && (ckE k c u && ckE d c v)))))) | _ => false)
  | .lrng t a b, c, e => (match e with
    | .Call (.Name x _) [.Call (.Name y _) [u] [] _] [] _ => gBl c (if t then "tuple" else "list") x && (gBl c "range" y && (!isStar u && (isNil a && ckE b c u)))
    | .Call (.Name x _) [.Call (.Name y _) [u, v] [] _] [] _ => gBl c (if t then "tuple" else "list") x && (gBl c "range" y && (!isStar u && (!isStar v && (!isNil a && (ckE a c u && ckE b c v)))))
    | _ => false)
  | .tidx o a, c, e => (match e with | .Call (.Attribute y m apos) [u] [] pos => decide (m = "index") && ((apos.endLine == pos.line) && (notSup y && (!isStar u && (ckE o c y && ckE a c u)))) | _ => false)
  | .gint x i, c, e => (match e with | .Name y _ => decide (y = x) && ((glB c.sc x && okN x) && c.ks.any fun p => decide (p = (x, i))) | _ => false)
  | .gstr x i, c, e => (match e with | .Name y _ => decide (y = x) && ((glB c.sc x && okN x) && c.ss.any fun p => decide (p = (x, i))) | _ => false)
  | .iSeq _, _, _ => false
  | .iRange _, _, _ => false
  | .iRange2 _ _, _, _ => false
  | .iEnum _, _, _ => false
  | .iRev _, _, _ => false
  | .iKeys _, _, _ => false
def ckL : E → Ck → List Expr → Bool
  | .nil, _, xs => xs.isEmpty
  | .cons a b, c, xs => (match xs with | x :: xs => !isStar x && (ckE a c x && ckL b c xs) | [] => false)
  | _, _, _ => false
def ckI : E → Ck → Expr → Bool
  | .iSeq a, c, x => ckE a c x
  | .iRange a, c, e => (match e with | .Call (.Name x _) [y] [] _ => gBl c "range" x && (!isStar y && ckE a c y) | _ => false)
  | .iRange2 a b, c, e => (match e with | .Call (.Name x _) [y, z] [] _ => gBl c "range" x && (!isStar y && (!isStar z && (ckE a c y && ckE b c z))) | _ => false)
  | .iRev a, c, e => (match e with | .Call (.Name x _) [y] [] _ => gBl c "reversed" x && (!isStar y && ckE a c y) | _ => false)
  | .iEnum a, c, e => (match e with | .Call (.Name x _) [y] [] _ => gBl c "enumerate" x && (!isStar y && ckE a c y) | _ => false)
  | .iKeys a, c, e => (match e with | .Name x _ => (match a with | .var i => varB c i x | _ => false) | _ => false)
  | _, _, _ => false
end

/-- what is known of a class -/
structure ClsK (K : Fg) (mg : Str → Option Value) (fa : Nat → Addr) (cd : Cd) : Prop where
  cls : Cls K (cad K cd.name)
  flds : ∀ f ∈ cd.flds, NoAttr K (cad K cd.name) f
  mets : ∀ p ∈ cd.mets, Meth K (cad K cd.name) p.1 (fa p.2)
  prps : ∀ p ∈ cd.prps, ∃ pa, PropOf K (cad K cd.name) p.1 pa (fa p.2)
  init : ∀ i, cd.init = some i → Mk K (cad K cd.name) (fa i) ∧ mg cd.name = some (.ref (cad K cd.name))
/-- what stands around -/
structure Gd (X : Cx) (c : Ck) (k : Nat) (fa : Nat → Addr) (fd : Nat → FuncData) (C : CE) : Prop where
  sc : X.env.scope = c.sc
  N : X.N = c.N
  nd : c.N.Nodup
  calm : X.calm = true
  xe : X.xe = fun _ _ => False
  room : Room (k + 1) X.A
  blt : ∀ x ∈ bltNames, X.mg x = none
  fns : ∀ i d, c.T[i]? = some d → (d.cls = none → X.mg d.name = some (.ref (fa i))) ∧ PySem.W.keepIn (kwX X) (.ref (fa i)) = true ∧ Binds (kwX X) (fd i) d.ps [] ∧ FnOk X.prog X.w (kwX X) X.mg X.base CX0 k (fa i) (fd i) d.ps (spOf (kwX X) (C i))
  clss : ∀ cd ∈ c.cs, ClsK (kwX X) X.mg fa cd
  kints : ∀ p ∈ c.ks, ∃ t, X.mg p.1 = some (.int p.2 t)
  kstrs : ∀ p ∈ c.ss, ∃ t, X.mg p.1 = some (.str p.2 t)
section
variable {X : Cx} {c : Ck} {k : Nat} {fa : Nat → Addr} {fd : Nat → FuncData} {C : CE}
theorem Gd.blk (G : Gd X c k fa fd C) (scope : Scope) (s : Shared) (H : Hp) (A : Addr) (cl : List (Str × Addr)) (fp : List Addr) : Gd (Blk X scope s H A cl fp) { c with sc := relS scope c.sc } k fa fd C :=
  ⟨by rw [← G.sc]; rfl, G.N, G.nd, G.calm, rfl, G.room, G.blt, G.fns, G.clss, G.kints, G.kstrs⟩
theorem Gd.room0 (G : Gd X c k fa fd C) : Room k X.A := G.room.mono (Nat.le_succ k)
theorem Gd.u65 (G : Gd X c k fa fd C) : X.A.units + 66 < cLine := by
  have h := G.room.un
  omega
theorem Gd.u66 (G : Gd X c k fa fd C) : X.A.units + 66 < cLine := by
  have h := G.room.un
  omega
theorem Gd.u1 (G : Gd X c k fa fd C) : X.A.units + 1 < cLine := by
  have h := G.room.un
  omega
theorem vis_of (G : Gd X c k fa fd C) {x : Str} (h : visB c.sc x = true) : Vis X.env.scope x := by
  rw [G.sc]
  unfold visB at h
  unfold Vis
  split at h
  · exact .inl (by assumption)
  · exact .inr (.inl (by assumption))
  · exact .inr (.inr (by assumption))
  · cases h
theorem loc_of (G : Gd X c k fa fd C) {x : Str} (h : locB c.sc x = true) : L2.Loc X.env.scope x := by
  rw [G.sc]
  unfold locB at h
  unfold L2.Loc
  split at h
  · exact .inl (by assumption)
  · exact .inr (by assumption)
  · cases h
theorem own_of (G : Gd X c k fa fd C) {x : Str} (h : ownB c.sc x = true) : X.env.scope.names.lookup x = some .local := by
  rw [G.sc]
  unfold ownB at h
  split at h
  · assumption
  · cases h
theorem gl_of (G : Gd X c k fa fd C) {x : Str} (h : glB c.sc x = true) : Gl X x := by
  show X.env.scope.names.lookup x = some .globalImplicit
  rw [G.sc]
  unfold glB at h
  split at h
  · assumption
  · cases h
theorem okN_of {x : Str} (h : okN x = true) : (x == ("__debug__" : Str)) = false ∧ (x == ("__classdict__" : Str)) = false ∧ x ≠ "__name__" := by
  unfold okN at h
  simp only [Bool.and_eq_true, Bool.not_eq_true'] at h
  exact ⟨h.1.1, h.1.2, fun e => by rw [e] at h; simp at h⟩
theorem pe_varB (G : Gd X c k fa fd C) {i : Nat} {x : Str} {pos : Pos} (h : varB c i x = true) : PE X (.Name x pos) (tVar i) := by
  unfold varB at h
  simp only [Bool.and_eq_true, decide_eq_true_eq] at h
  obtain ⟨a, b, _⟩ := okN_of h.2
  exact pe_var (by rw [G.N]; exact h.1.1) (vis_of G h.1.2) a b
theorem boot_of {f : Bfn} {v : Value} (h : bfnV f = some v) : bootBuiltins (bfnN f) = some v ∧ bfnN f ∈ bltNames := by
  cases f <;> first | (cases h; done) | (cases h; exact ⟨by decide +kernel, by decide +kernel⟩)
/-- and, or over a row -/
def AO (X : Cx) (W : Wp) (es : List Expr) : Prop := ∀ pos, (∃ t, PW X (.BoolOp .And es pos) t ∧ EvT (kwX X) t W.ta) ∧ (∃ t, PW X (.BoolOp .Or es pos) t ∧ EvT (kwX X) t W.to) ∧ SE1 X W.va (.BoolOp .And es pos) ∧ SE1 X W.vo (.BoolOp .Or es pos)
theorem ao_one {W : Wp} {x : Expr} (h : SE X W x) : AO X ⟨fE, fT, fun _ _ _ => False, W.t, W.t, W.e, W.e, fI⟩ [x] := fun pos => by
  obtain ⟨⟨t1, p1, q1⟩, ⟨t2, p2, q2⟩⟩ := h
  exact ⟨⟨_, pw_and1 p2, q2⟩, ⟨_, pw_or1 p2, q2⟩, ⟨_, pe_one p1, q1⟩, ⟨_, pe_one p1, q1⟩⟩
theorem ao_cons {W V : Wp} {x y : Expr} {es : List Expr} (h : SE X W x) (hr : AO X V (y :: es)) :
    AO X ⟨fE, fT, fun _ _ _ => False, fun σ M Q => W.t σ M fun c M1 => if c = true then V.ta σ M1 Q else Q false M1, fun σ M Q => W.t σ M fun c M1 => if c = true then Q true M1 else V.to σ M1 Q,
      fun σ M Q => bW W.e σ M fun c M1 => if c = true then V.va σ M1 Q else Q (.bl false) M1, fun σ M Q => bW W.e σ M fun c M1 => if c = true then Q (.bl true) M1 else V.vo σ M1 Q, fI⟩ (x :: y :: es) := fun pos => by
  obtain ⟨⟨t1, p1, q1⟩, ⟨t2, p2, q2⟩⟩ := h
  obtain ⟨⟨ta, pa, qa⟩, ⟨tb, pb, qb⟩, ⟨tc, pc, qc⟩, ⟨td, pd, qd⟩⟩ := hr pos
  refine ⟨⟨_, pw_and p2 pa, fun σ H σu M Qu Q rs S hf c => ?_⟩, ⟨_, pw_or p2 pb, fun σ H σu M Qu Q rs S hf c => ?_⟩, ⟨_, pe_and p1 pc, fun σ H σu M Qu Q rs S hf c => ?_⟩, ⟨_, pe_or p1 pd, fun σ H σu M Qu Q rs S hf c => ?_⟩⟩
  · refine q2 σ H σu M _ _ rs S hf fun b H1 M1 st S1 hq => ?_
    cases b with
    | true => exact qa σ H1 σu M1 _ _ (rs.stp S st) S1 hq (c.tr S st)
    | false => exact c _ _ _ st S1 hq
  · refine q2 σ H σu M _ _ rs S hf fun b H1 M1 st S1 hq => ?_
    cases b with
    | true => exact c _ _ _ st S1 hq
    | false => exact qb σ H1 σu M1 _ _ (rs.stp S st) S1 hq (c.tr S st)
  · refine q1 σ H σu M _ _ rs S hf fun v H1 u M1 st S1 r hq => ?_
    obtain ⟨b, rfl, hq⟩ := hq
    cases r
    refine ⟨b, rfl, ?_⟩
    cases b with
    | true => exact qc σ H1 σu M1 _ _ (rs.stp S st) S1 hq (c.tr S st)
    | false => exact c _ _ _ _ st S1 (.bl _) hq
  · refine q1 σ H σu M _ _ rs S hf fun v H1 u M1 st S1 r hq => ?_
    obtain ⟨b, rfl, hq⟩ := hq
    cases r
    refine ⟨b, rfl, ?_⟩
    cases b with
    | true => exact c _ _ _ _ st S1 (.bl _) hq
    | false => exact qd σ H1 σu M1 _ _ (rs.stp S st) S1 hq (c.tr S st)
theorem sg_of (G : Gd X c k fa fd C) {tg : Tg} {e : Expr} (h : ckTg tg c.N (ownB c.sc) e = true) : SG X e tg := by
  unfold ckTg at h
  split at h
  · split at h
    · rw [Bool.and_eq_true] at h
      have o := own_of G h.2
      exact sg_one (by rw [G.N]; exact G.nd) (by rw [G.N]; exact of_decide_eq_true h.1) (.inl o) (.inr o)
    · cases h
  · split at h
    · exact sg_many G.calm (by rw [G.N]; exact G.nd) (ok := ownB c.sc) (fun x hx => ⟨.inl (own_of G hx), .inr (own_of G hx)⟩) (by rw [G.N]; exact h)
    · cases h
  · cases h
theorem sg_ofF (G : Gd X c k fa fd C) (hf : ∀ x, X.fn x = true) {tg : Tg} {e : Expr} (h : ckTg tg c.N (locB c.sc) e = true) : SG X e tg := by
  unfold ckTg at h
  split at h
  · split at h
    · rw [Bool.and_eq_true] at h
      exact sg_one (by rw [G.N]; exact G.nd) (by rw [G.N]; exact of_decide_eq_true h.1) (loc_of G h.2) (.inl (hf _))
    · cases h
  · split at h
    · exact sg_many G.calm (by rw [G.N]; exact G.nd) (ok := locB c.sc) (fun x hx => ⟨loc_of G hx, .inl (hf _)⟩) (by rw [G.N]; exact h)
    · cases h
  · cases h
end
def SndE (e : E) : Prop := ∀ (X : Cx) (c : Ck) (k : Nat) (fa : Nat → Addr) (fd : Nat → FuncData) (C : CE), Gd X c k fa fd C → ∀ x, ckE e c x = true → SE X (w C e) x
def SndL (e : E) : Prop := ∀ (X : Cx) (c : Ck) (k : Nat) (fa : Nat → Addr) (fd : Nat → FuncData) (C : CE), Gd X c k fa fd C → ∀ xs, ckL e c xs = true → SA X (w C e).l xs ∧ xs.all (fun e => !isStar e) = true ∧ (xs ≠ [] → AO X (w C e) xs) ∧ (xs = [] → e = .nil)
def SndI (e : E) : Prop := ∀ (X : Cx) (c : Ck) (k : Nat) (fa : Nat → Addr) (fd : Nat → FuncData) (C : CE), Gd X c k fa fd C → ∀ x tg, ckI e c x = true → enOk e tg = true → (SI X tg x (w C e).i) ∨ ∃ i, e = .iKeys (.var i) ∧ PE X x (tVar i)
theorem noE {e : E} (h : ∀ c x, ckE e c x = false) : SndE e := fun X c k fa fd C G x q => by rw [h c x] at q; cases q
theorem noL {e : E} (h : ∀ c x, ckL e c x = false) : SndL e := fun X c k fa fd C G x q => by rw [h c x] at q; cases q
theorem noI {e : E} (h : ∀ c x, ckI e c x = false) : SndI e := fun X c k fa fd C G x tg q _ => by rw [h c x] at q; cases q
/-- a comprehension's parts -/
theorem compOk_of {X : Cx} {c : Ck} {k : Nat} {fa : Nat → Addr} {fd : Nat → FuncData} {C : CE} (G : Gd X c k fa fd C) {cnd elt : E} (sc : SndE cnd) (se : SndE elt) {tg : Tg} {own : List (Str × Nat)} {scope : Scope} {g e : Expr} {ifs : List Expr}
    (hb : blkC c.N c.sc scope own = true) (ho : own.map (·.2) = tg.slots) (ht : ckTg tg c.N (ownB (relS scope c.sc)) g = true)
    (hi : (match ifs with | [] => isNil cnd | [i] => !isNil cnd && ckE cnd { c with sc := relS scope c.sc } i | _ => false) = true) (he : ckE elt { c with sc := relS scope c.sc } e = true) :
    CompOk X g e ifs scope own tg (if isNil cnd = true then fun _ M Q => Q true M else (w C cnd).t) (w C elt).e := by
  refine ⟨G.calm, by rw [G.N]; exact G.nd, ?_, ho, fun s H A cl fp => sg_of (G.blk scope s H A cl fp) ht, ?_, fun s H A cl fp => (se _ _ k fa fd C (G.blk scope s H A cl fp) e he).1⟩
  · rw [G.N, G.sc]
    exact blkOk_by hb
  · split at hi
    · left
      exact ⟨rfl, by rw [if_pos hi]⟩
    · right
      rw [Bool.and_eq_true] at hi
      refine ⟨_, rfl, fun s H A cl fp => ?_⟩
      rw [if_neg (by simpa using hi.1)]
      exact (sc _ _ k fa fd C (G.blk scope s H A cl fp) _ hi.2).2
    · cases hi
theorem gBl_of {X : Cx} {c : Ck} {k : Nat} {fa : Nat → Addr} {fd : Nat → FuncData} {C : CE} (G : Gd X c k fa fd C) {n x : Str} (h : gBl c n x = true) (hn : n ∈ bltNames) : x = n ∧ Gl X x ∧ X.mg x = none ∧ (x == ("__debug__" : Str)) = false ∧ x ≠ "__name__" := by
  unfold gBl at h
  simp only [Bool.and_eq_true, decide_eq_true_eq] at h
  obtain ⟨e, h1, h2⟩ := h
  obtain ⟨a, _, b⟩ := okN_of h2
  exact ⟨e, gl_of G h1, by rw [e]; exact G.blt n hn, a, b⟩
theorem sound (e : E) : SndE e ∧ SndL e ∧ SndI e := by
  induction e with
  | var i =>
    refine ⟨fun X c k fa fd C G x h => ?_, noL fun _ _ => rfl, noI fun _ _ => rfl⟩
    unfold ckE at h
    split at h <;> first | (cases h; done) | skip
    refine .ofE rfl ⟨_, pe_varB G h, ?_⟩
    intro σ H σu M Qu Q rs S ⟨u, e, q⟩ c
    obtain ⟨v, e1, r⟩ := rs.2 i u e
    exact ⟨v, e1, c.at_ S r q⟩
  | int i =>
    refine ⟨fun X c k fa fd C G x h => ?_, noL fun _ _ => rfl, noI fun _ _ => rfl⟩
    unfold ckE at h
    split at h <;> first | (cases h; done) | skip
    obtain rfl : i = _ := of_decide_eq_true h
    exact .ofE rfl se_int
  | str i =>
    refine ⟨fun X c k fa fd C G x h => ?_, noL fun _ _ => rfl, noI fun _ _ => rfl⟩
    unfold ckE at h
    split at h <;> first | (cases h; done) | skip
    obtain rfl : i = _ := of_decide_eq_true h
    exact .ofE rfl se_str
  | bl i =>
    refine ⟨fun X c k fa fd C G x h => ?_, noL fun _ _ => rfl, noI fun _ _ => rfl⟩
    unfold ckE at h
    split at h <;> first | (cases h; done) | skip
    obtain rfl : i = _ := of_decide_eq_true h
    exact .ofE rfl se_bl
  | non =>
    refine ⟨fun X c k fa fd C G x h => ?_, noL fun _ _ => rfl, noI fun _ _ => rfl⟩
    unfold ckE at h
    split at h <;> first | (cases h; done) | skip
    exact .ofE rfl se_non
  | nil =>
    refine ⟨noE fun _ _ => rfl, fun X c k fa fd C G xs h => ?_, noI fun _ _ => rfl⟩
    cases xs with
    | nil => exact ⟨sa_nil, rfl, fun z => absurd rfl z, fun _ => rfl⟩
    | cons _ _ => cases h
  | cons a b iha ihb =>
    refine ⟨noE fun _ _ => rfl, fun X c k fa fd C G xs h => ?_, noI fun _ _ => rfl⟩
    cases xs with
    | nil => cases h
    | cons x xs =>
      have h : (!isStar x && (ckE a c x && ckL b c xs)) = true := h
      rw [Bool.and_eq_true, Bool.and_eq_true] at h
      obtain ⟨h1, h2, h3⟩ := h
      have h1 : isStar x = false := by simpa using h1
      have sa := iha.1 X c k fa fd C G x h2
      obtain ⟨sb, hs, ao, hn⟩ := ihb.2.1 X c k fa fd C G xs h3
      refine ⟨sa_cons h1 sa.1 sb, by rw [List.all_cons, h1, hs]; rfl, fun _ => ?_, fun z => by cases z⟩
      cases xs with
      | nil =>
        have e := hn rfl
        subst e
        exact ao_one sa
      | cons y ys =>
        have hb : isNil b = false := by
          cases b <;> first | rfl | (cases h3; done)
        have hn : ¬ isNil b = true := by rw [hb]; decide
        have e1 : (w C (.cons a b)).ta = fun σ M Q => (w C a).t σ M fun c M1 => if c = true then (w C b).ta σ M1 Q else Q false M1 := if_neg hn
        have e2 : (w C (.cons a b)).to = fun σ M Q => (w C a).t σ M fun c M1 => if c = true then Q true M1 else (w C b).to σ M1 Q := if_neg hn
        have e3 : (w C (.cons a b)).va = fun σ M Q => bW (w C a).e σ M fun c M1 => if c = true then (w C b).va σ M1 Q else Q (.bl false) M1 := if_neg hn
        have e4 : (w C (.cons a b)).vo = fun σ M Q => bW (w C a).e σ M fun c M1 => if c = true then Q (.bl true) M1 else (w C b).vo σ M1 Q := if_neg hn
        have q := ao_cons sa (ao (by simp))
        intro pos
        rw [e1, e2, e3, e4]
        exact q pos
  | tup es ih =>
    refine ⟨fun X c k fa fd C G x h => ?_, noL fun _ _ => rfl, noI fun _ _ => rfl⟩
    unfold ckE at h
    split at h <;> first | (cases h; done) | skip
    exact .ofE rfl (se_tup (ih.2.1 X c k fa fd C G _ h).1)
  | dtup es ih =>
    refine ⟨fun X c k fa fd C G x h => ?_, noL fun _ _ => rfl, noI fun _ _ => rfl⟩
    unfold ckE at h
    split at h <;> first | (cases h; done) | skip
    exact .ofE rfl (se_dtup (ih.2.1 X c k fa fd C G _ h).1)
  | lst es ih =>
    refine ⟨fun X c k fa fd C G x h => ?_, noL fun _ _ => rfl, noI fun _ _ => rfl⟩
    unfold ckE at h
    split at h <;> first | (cases h; done) | skip
    exact .ofE rfl (se_lst (ih.2.1 X c k fa fd C G _ h).1)
  | dnewN =>
    refine ⟨fun X c k fa fd C G x h => ?_, noL fun _ _ => rfl, noI fun _ _ => rfl⟩
    unfold ckE at h
    split at h <;> first | (cases h; done) | skip
    exact .ofE rfl se_dnewN
  | dnew t =>
    refine ⟨fun X c k fa fd C G x h => ?_, noL fun _ _ => rfl, noI fun _ _ => rfl⟩
    unfold ckE at h
    split at h <;> first | (cases h; done) | skip
    exact .ofE rfl se_dnew
  | bin op a b iha ihb =>
    refine ⟨fun X c k fa fd C G x h => ?_, noL fun _ _ => rfl, noI fun _ _ => rfl⟩
    unfold ckE at h
    split at h <;> first | (cases h; done) | skip
    simp only [Bool.and_eq_true, decide_eq_true_eq] at h
    obtain ⟨rfl, h1, h2⟩ := h
    exact .ofE rfl (se_bin (iha.1 X c k fa fd C G _ h1).1 (ihb.1 X c k fa fd C G _ h2).1)
  | neg a ih =>
    refine ⟨fun X c k fa fd C G x h => ?_, noL fun _ _ => rfl, noI fun _ _ => rfl⟩
    unfold ckE at h
    split at h <;> first | (cases h; done) | skip
    exact .ofE rfl (se_neg (ih.1 X c k fa fd C G _ h).1)
  | cmp op a b iha ihb =>
    refine ⟨fun X c k fa fd C G x h => ?_, noL fun _ _ => rfl, noI fun _ _ => rfl⟩
    unfold ckE at h
    split at h <;> first | (cases h; done) | skip
    simp only [Bool.and_eq_true, decide_eq_true_eq, Bool.not_eq_true'] at h
    obtain ⟨rfl, h0, h1, h2⟩ := h
    exact se_cmp G.u65 (iha.1 X c k fa fd C G _ h1).1 (ihb.1 X c k fa fd C G _ h2).1 h0
  | chain o1 o2 a b d iha ihb ihd =>
    refine ⟨fun X c k fa fd C G x h => ?_, noL fun _ _ => rfl, noI fun _ _ => rfl⟩
    unfold ckE at h
    split at h <;> first | (cases h; done) | skip
    simp only [Bool.and_eq_true, decide_eq_true_eq, Bool.not_eq_true'] at h
    obtain ⟨rfl, rfl, h0, h1, h2, h3⟩ := h
    exact se_chain G.u65 (iha.1 X c k fa fd C G _ h1).1 (ihb.1 X c k fa fd C G _ h2).1 (ihd.1 X c k fa fd C G _ h3).1 h0
  | isN a ih =>
    refine ⟨fun X c k fa fd C G x h => ?_, noL fun _ _ => rfl, noI fun _ _ => rfl⟩
    unfold ckE at h
    split at h <;> first | (cases h; done) | skip
    exact se_isN (ih.1 X c k fa fd C G _ h).1
  | notN a ih =>
    refine ⟨fun X c k fa fd C G x h => ?_, noL fun _ _ => rfl, noI fun _ _ => rfl⟩
    unfold ckE at h
    split at h <;> first | (cases h; done) | skip
    exact se_notN (ih.1 X c k fa fd C G _ h).1
  | isB neg b a ih =>
    refine ⟨fun X c k fa fd C G x h => ?_, noL fun _ _ => rfl, noI fun _ _ => rfl⟩
    unfold ckE at h
    split at h <;> first | (cases h; done) | skip
    simp only [Bool.and_eq_true, decide_eq_true_eq] at h
    obtain ⟨rfl, rfl, h1⟩ := h
    exact se_isB (ih.1 X c k fa fd C G _ h1).1
  | ands es ih =>
    refine ⟨fun X c k fa fd C G x h => ?_, noL fun _ _ => rfl, noI fun _ _ => rfl⟩
    unfold ckE at h
    split at h <;> first | (cases h; done) | skip
    simp only [Bool.and_eq_true, Bool.not_eq_true'] at h
    obtain ⟨h0, h1⟩ := h
    obtain ⟨⟨t, p, q⟩, _, v, _⟩ := (ih.2.1 X c k fa fd C G _ h1).2.2.1 (by intro z; rw [z] at h0; cases h0) _
    exact ⟨v, ⟨_, p.pt, q⟩⟩
  | ors es ih =>
    refine ⟨fun X c k fa fd C G x h => ?_, noL fun _ _ => rfl, noI fun _ _ => rfl⟩
    unfold ckE at h
    split at h <;> first | (cases h; done) | skip
    simp only [Bool.and_eq_true, Bool.not_eq_true'] at h
    obtain ⟨h0, h1⟩ := h
    obtain ⟨_, ⟨t, p, q⟩, _, v⟩ := (ih.2.1 X c k fa fd C G _ h1).2.2.1 (by intro z; rw [z] at h0; cases h0) _
    exact ⟨v, ⟨_, p.pt, q⟩⟩
  | not a ih =>
    refine ⟨fun X c k fa fd C G x h => ?_, noL fun _ _ => rfl, noI fun _ _ => rfl⟩
    unfold ckE at h
    split at h <;> first | (cases h; done) | skip
    exact se_not (ih.1 X c k fa fd C G _ h)
  | ite d a b ihd iha ihb =>
    refine ⟨fun X c k fa fd C G x h => ?_, noL fun _ _ => rfl, noI fun _ _ => rfl⟩
    unfold ckE at h
    split at h <;> first | (cases h; done) | skip
    simp only [Bool.and_eq_true] at h
    obtain ⟨h1, h2, h3⟩ := h
    exact ⟨se_ite (ihd.1 X c k fa fd C G _ h1).2 (iha.1 X c k fa fd C G _ h2).1 (ihb.1 X c k fa fd C G _ h3).1, ⟨fun _ _ _ => False, ⟨fun _ _ _ _ _ _ z => z.elim⟩, fun _ _ _ _ _ _ _ _ z _ => z⟩⟩
  | dget o k d iho ihk ihd =>
    refine ⟨fun X c kk fa fd C G x h => ?_, noL fun _ _ => rfl, noI fun _ _ => rfl⟩
    unfold ckE at h
    split at h <;> first | (cases h; done) | skip
    simp only [Bool.and_eq_true, decide_eq_true_eq, Bool.not_eq_true'] at h
    obtain ⟨rfl, h1, h2, h3, h4, h5, h6, h7⟩ := h
    exact .ofE rfl (se_dget G.u66 h3 h4 h1 h2 (iho.1 X c kk fa fd C G _ h5).1 (ihk.1 X c kk fa fd C G _ h6).1 (ihd.1 X c kk fa fd C G _ h7).1)
  | dget1 o k iho ihk =>
    refine ⟨fun X c kk fa fd C G x h => ?_, noL fun _ _ => rfl, noI fun _ _ => rfl⟩
    unfold ckE at h
    split at h <;> first | (cases h; done) | skip
    simp only [Bool.and_eq_true, decide_eq_true_eq, Bool.not_eq_true'] at h
    obtain ⟨rfl, h1, h2, h3, h5, h6⟩ := h
    exact .ofE rfl (se_dget1 G.u66 h3 h1 h2 (iho.1 X c kk fa fd C G _ h5).1 (ihk.1 X c kk fa fd C G _ h6).1)
  | ix a i iha ihi =>
    refine ⟨fun X c k fa fd C G x h => ?_, noL fun _ _ => rfl, noI fun _ _ => rfl⟩
    unfold ckE at h
    split at h <;> first | (cases h; done) | skip
    simp only [Bool.and_eq_true] at h
    obtain ⟨h0, h1, h2⟩ := h
    exact .ofE rfl (se_ix G.u66 h0 (iha.1 X c k fa fd C G _ h1).1 (ihi.1 X c k fa fd C G _ h2).1)
  | slice a lo hi iha ihl ihh =>
    refine ⟨fun X c k fa fd C G x h => ?_, noL fun _ _ => rfl, noI fun _ _ => rfl⟩
    unfold ckE at h
    split at h <;> first | (cases h; done) | skip
    rw [Bool.and_eq_true, Bool.and_eq_true] at h
    obtain ⟨h1, h2, h3⟩ := h
    have part : ∀ {e : E} {l : Option Expr}, SndE e → (match l with | none => isNil e | some y => !isNil e && ckE e c y) = true → SO X (partW e (w C e).e) l := fun {e l} s h => by
      cases l with
      | none =>
        have h : isNil e = true := h
        have e2 : partW e (w C e).e = fun _ M Q => Q none M := by
          unfold partW
          funext σ M Q
          rw [if_pos h]
        rw [e2]
        exact so_none
      | some y =>
        have h : (!isNil e && ckE e c y) = true := h
        rw [Bool.and_eq_true] at h
        have e2 : partW e (w C e).e = fun σ M Q => (w C e).e σ M fun x M1 => ∃ i, x = .int i ∧ Q (some i) M1 := by
          unfold partW
          funext σ M Q
          rw [if_neg (by simpa using h.1)]
        rw [e2]
        exact so_some (s X c k fa fd C G _ h.2).1
    exact .ofE rfl (se_slice (iha.1 X c k fa fd C G _ h1).1 (part ihl.1 h2) (part ihh.1 h3))
  | call f es ih =>
    refine ⟨fun X c k fa fd C G x h => ?_, noL fun _ _ => rfl, noI fun _ _ => rfl⟩
    unfold ckE at h
    split at h <;> first | (cases h; done) | skip
    rename_i e x p xs pos
    rw [Bool.and_eq_true] at h
    obtain ⟨h1, h2⟩ := h
    unfold gFn at h1
    rw [Bool.and_eq_true, Bool.and_eq_true] at h1
    obtain ⟨h3, h4, h5⟩ := h1
    obtain ⟨o1, _, _⟩ := okN_of h5
    cases hd : c.T[f]? with
    | none => rw [hd] at h3; cases h3
    | some d =>
      rw [hd] at h3
      simp only [Bool.and_eq_true, decide_eq_true_eq] at h3
      obtain ⟨hcl, rfl, h3⟩ := h3
      obtain ⟨g1, g2, g3, g4⟩ := G.fns f d hd
      have g1 := g1 hcl
      obtain ⟨sa, ns, _, hn⟩ := ih.2.1 X c k fa fd C G _ h2
      cases xs with
      | nil =>
        have e := hn rfl
        subst e
        exact .ofE rfl (se_call0 g4 G.room0 (gl_of G h4) g1 g2 g3 o1)
      | cons y ys => exact .ofE rfl (se_call g4 G.room0 (gl_of G h4) g1 g2 g3 o1 ns sa)
  | blt f es ih =>
    refine ⟨fun X c k fa fd C G x h => ?_, noL fun _ _ => rfl, noI fun _ _ => rfl⟩
    unfold ckE at h
    split at h <;> first | (cases h; done) | skip
    rename_i e x p xs pos
    rw [Bool.and_eq_true, Bool.and_eq_true, Bool.and_eq_true] at h
    obtain ⟨h1, h2, h3, h4⟩ := h
    obtain ⟨v, hv⟩ := Option.isSome_iff_exists.mp h2
    obtain ⟨b1, b2⟩ := boot_of hv
    obtain ⟨e1, e2, e3, e4, e5⟩ := gBl_of G h1 b2
    obtain ⟨sa, ns, _, hn⟩ := ih.2.1 X c k fa fd C G _ h4
    cases xs with
    | nil => cases h3
    | cons y ys => exact .ofE rfl (se_blt G.calm G.u66 hv e2 e3 (by rw [e1]; exact b1) e5 e4 ns sa)
  | mth m o es iho ih =>
    refine ⟨fun X c k fa fd C G x h => ?_, noL fun _ _ => rfl, noI fun _ _ => rfl⟩
    unfold ckE at h
    split at h <;> first | (cases h; done) | skip
    rename_i e y a apos xs pos
    rw [Bool.and_eq_true, Bool.and_eq_true, Bool.and_eq_true, Bool.and_eq_true, Bool.and_eq_true] at h
    obtain ⟨h1, h2, h3, h4, h5, h6⟩ := h
    cases hm : mfnT m with
    | none => rw [hm] at h1; cases h1
    | some t =>
      rw [hm] at h1
      obtain ⟨T, n, id⟩ := t
      obtain rfl : a = n := of_decide_eq_true h1
      obtain ⟨sa, ns, _, hn⟩ := ih.2.1 X c k fa fd C G _ h6
      exact .ofE rfl (se_mth G.u66 hm ns (of_decide_eq_true h4) h2 h3 (iho.1 X c k fa fd C G _ h5).1 sa fun z => by rw [hn z]; rfl)
  | isinst a t ih =>
    refine ⟨fun X c k fa fd C G x h => ?_, noL fun _ _ => rfl, noI fun _ _ => rfl⟩
    unfold ckE at h
    split at h <;> first | (cases h; done) | skip
    rw [Bool.and_eq_true, Bool.and_eq_true, Bool.and_eq_true, Bool.and_eq_true] at h
    obtain ⟨h1, h2, h3, h4, h5⟩ := h
    obtain ⟨e1, e2, e3, e4, e5⟩ := gBl_of G h1 (by decide +kernel)
    have ht2 : Str.ofString t ∈ bltNames := by
      have h3 := h3
      unfold tyOk at h3
      simp only [Bool.or_eq_true, beq_iff_eq] at h3
      rcases h3 with (((h | h) | h) | h) | h <;> subst h <;> decide +kernel
    obtain ⟨f1, f2, f3, f4, f5⟩ := gBl_of G h2 ht2
    exact se_isinst h3 e1 f1 e2 e3 f2 f3 (by simpa using h4) (ih.1 X c k fa fd C G _ h5).1
  | comp own tg it cnd elt ih1 ih2 ih3 =>
    refine ⟨fun X c k fa fd C G x h => ?_, noL fun _ _ => rfl, noI fun _ _ => rfl⟩
    unfold ckE at h
    split at h <;> first | (cases h; done) | skip
    rename_i e x g itx ifs is_ scope pos
    rw [Bool.and_eq_true, Bool.and_eq_true, Bool.and_eq_true, Bool.and_eq_true, Bool.and_eq_true, Bool.and_eq_true, Bool.and_eq_true, Bool.and_eq_true] at h
    obtain ⟨h1, ⟨hen, h2⟩, h3, h4, h5, h6, h7, h8⟩ := h
    obtain rfl : is_ = 0 := of_decide_eq_true h1
    have co := compOk_of G ih2.1 ih3.1 h4 (of_decide_eq_true h5) h6 h7 h8
    rcases ih1.2.2 X c k fa fd C G itx g h2 hen with hi | ⟨i, rfl, hi⟩
    · exact .ofE rfl (se_comp hi co h3)
    · exact .ofE rfl (se_compK hi co h3)
  | dcompN own tg it cnd ky vl ih1 ih2 ih3 ih4 =>
    refine ⟨fun X c k fa fd C G x h => ?_, noL fun _ _ => rfl, noI fun _ _ => rfl⟩
    unfold ckE at h
    split at h <;> first | (cases h; done) | skip
    rename_i e x y g itx ifs is_ scope pos
    rw [Bool.and_eq_true, Bool.and_eq_true, Bool.and_eq_true, Bool.and_eq_true, Bool.and_eq_true, Bool.and_eq_true, Bool.and_eq_true, Bool.and_eq_true, Bool.and_eq_true, Bool.and_eq_true] at h
    obtain ⟨h1, ⟨hen, h2⟩, hnk, h3, h4, h5, h6, h7, h8, h9⟩ := h
    obtain rfl : is_ = 0 := of_decide_eq_true h1
    have co := compOk_of G ih2.1 ih3.1 h4 (of_decide_eq_true h5) h6 h7 h8
    have co2 := compOk_of G ih2.1 ih4.1 h4 (of_decide_eq_true h5) h6 h7 h9
    rcases ih1.2.2 X c k fa fd C G itx g h2 hen with hi | ⟨i, rfl, hi⟩
    · exact .ofE rfl (se_dcompN G.u66 hi co co2 h3)
    · cases hnk
  | fld f o ih =>
    refine ⟨fun X c k fa fd C G x h => ?_, noL fun _ _ => rfl, noI fun _ _ => rfl⟩
    unfold ckE at h
    split at h <;> first | (cases h; done) | skip
    simp only [Bool.and_eq_true, decide_eq_true_eq] at h
    obtain ⟨rfl, h1, h2⟩ := h
    exact .ofE rfl (se_fld h1 (ih.1 X c k fa fd C G _ h2).1)
  | meth cn m f o es iho ih =>
    refine ⟨fun X c k fa fd C G x h => ?_, noL fun _ _ => rfl, noI fun _ _ => rfl⟩
    unfold ckE at h
    split at h <;> first | (cases h; done) | skip
    rename_i e y a apos xs pos
    simp only [Bool.and_eq_true, decide_eq_true_eq] at h
    obtain ⟨rfl, h1, h0, h2, h3, h4, h5, h6⟩ := h
    obtain ⟨cd, hcd, hcn, p, hp, rfl⟩ : ∃ cd, cd ∈ c.cs ∧ cd.name = cn ∧ ∃ p ∈ cd.mets, p = (a, f) := by
      unfold hasMeth at h1
      obtain ⟨cd, h7, h8⟩ := List.any_eq_true.mp h1
      rw [Bool.and_eq_true] at h8
      obtain ⟨p, h9, h10⟩ := List.any_eq_true.mp h8.2
      exact ⟨cd, h7, of_decide_eq_true h8.1, p, h9, of_decide_eq_true h10⟩
    subst hcn
    obtain ⟨d, hd⟩ := Option.isSome_iff_exists.mp h0
    obtain ⟨_, g2, g3, g4⟩ := G.fns f d hd
    have ck := G.clss cd hcd
    obtain ⟨sa, ns, _, hn⟩ := ih.2.1 X c k fa fd C G _ h6
    exact .ofE rfl (se_meth g4 G.room0 ck.cls (ck.mets _ hp) g3 ns h4 h2 h3 (iho.1 X c k fa fd C G _ h5).1 sa fun z => by rw [hn z]; rfl)
  | make cn f es ih =>
    refine ⟨fun X c k fa fd C G x h => ?_, noL fun _ _ => rfl, noI fun _ _ => rfl⟩
    unfold ckE at h
    split at h <;> first | (cases h; done) | skip
    simp only [Bool.and_eq_true, decide_eq_true_eq] at h
    obtain ⟨rfl, h1, h0, ⟨h2, h3⟩, h4⟩ := h
    obtain ⟨cd, hcd, hcn, hi⟩ : ∃ cd, cd ∈ c.cs ∧ cd.name = _ ∧ cd.init = some f := by
      unfold hasInit at h1
      obtain ⟨cd, h7, h8⟩ := List.any_eq_true.mp h1
      rw [Bool.and_eq_true] at h8
      exact ⟨cd, h7, of_decide_eq_true h8.1, of_decide_eq_true h8.2⟩
    subst hcn
    obtain ⟨d, hd⟩ := Option.isSome_iff_exists.mp h0
    obtain ⟨_, g2, g3, g4⟩ := G.fns f d hd
    have ck := G.clss cd hcd
    obtain ⟨sa, ns, _, hn⟩ := ih.2.1 X c k fa fd C G _ h4
    exact .ofE rfl (se_make (ck.init f hi).1 g4 G.room (gl_of G h2) (ck.init f hi).2 ck.cls g3 (okN_of h3).1 ns sa fun z => by rw [hn z]; rfl)
  | prop cn m f o ih =>
    refine ⟨fun X c k fa fd C G x h => ?_, noL fun _ _ => rfl, noI fun _ _ => rfl⟩
    unfold ckE at h
    split at h <;> first | (cases h; done) | skip
    simp only [Bool.and_eq_true, decide_eq_true_eq] at h
    obtain ⟨rfl, h1, h0, h2, h3⟩ := h
    obtain ⟨cd, hcd, hcn, p, hp, rfl⟩ : ∃ cd, cd ∈ c.cs ∧ cd.name = cn ∧ ∃ p ∈ cd.prps, p = (_, f) := by
      unfold hasProp at h1
      obtain ⟨cd, h7, h8⟩ := List.any_eq_true.mp h1
      rw [Bool.and_eq_true] at h8
      obtain ⟨p, h9, h10⟩ := List.any_eq_true.mp h8.2
      exact ⟨cd, h7, of_decide_eq_true h8.1, p, h9, of_decide_eq_true h10⟩
    subst hcn
    obtain ⟨d, hd⟩ := Option.isSome_iff_exists.mp h0
    obtain ⟨_, g2, g3, g4⟩ := G.fns f d hd
    have ck := G.clss cd hcd
    obtain ⟨pa, hpp⟩ := ck.prps _ hp
    exact .ofE rfl (se_prop g4 G.room ck.cls hpp g3 h2 (ih.1 X c k fa fd C G _ h3).1)
  | setdef o k d iho ihk ihd =>
    refine ⟨fun X c kk fa fd C G x h => ?_, noL fun _ _ => rfl, noI fun _ _ => rfl⟩
    unfold ckE at h
    split at h <;> first | (cases h; done) | skip
    simp only [Bool.and_eq_true, decide_eq_true_eq, Bool.not_eq_true'] at h
    obtain ⟨rfl, h1, h2, h3, h4, h5, h6, h7⟩ := h
    exact .ofE rfl (se_setdef h3 h4 h1 h2 (iho.1 X c kk fa fd C G _ h5).1 (ihk.1 X c kk fa fd C G _ h6).1 (ihd.1 X c kk fa fd C G _ h7).1)
  | lrng t a b iha ihb =>
    refine ⟨fun X c k fa fd C G x h => ?_, noL fun _ _ => rfl, noI fun _ _ => rfl⟩
    have inL : ((if t then "tuple" else "list") : Str) ∈ bltNames := by cases t <;> decide +kernel
    unfold ckE at h
    split at h <;> first | (cases h; done) | skip
    · simp only [Bool.and_eq_true, Bool.not_eq_true'] at h
      obtain ⟨h1, h2, h3, h4, h5⟩ := h
      obtain ⟨e1, e2, e3, _, _⟩ := gBl_of G h1 inL
      obtain ⟨f1, f2, f3, _, _⟩ := gBl_of G h2 (by decide +kernel)
      have ep : partW a (w C a).e = fun _ M Q => Q none M := by
        unfold partW
        funext σ M Q
        rw [if_pos h4]
      refine .ofE rfl ?_
      rw [ep]
      exact se_lrng1 (t := t) G.calm e1 f1 e2 e3 f2 f3 h3 (ihb.1 X c k fa fd C G _ h5).1
    · simp only [Bool.and_eq_true, Bool.not_eq_true'] at h
      obtain ⟨h1, h2, h3, h4, h5, h6, h7⟩ := h
      obtain ⟨e1, e2, e3, _, _⟩ := gBl_of G h1 inL
      obtain ⟨f1, f2, f3, _, _⟩ := gBl_of G h2 (by decide +kernel)
      have ep : partW a (w C a).e = fun σ M Q => (w C a).e σ M fun x M1 => ∃ i, x = .int i ∧ Q (some i) M1 := by
        unfold partW
        funext σ M Q
        rw [if_neg (by rw [h5]; decide)]
      refine .ofE rfl ?_
      rw [ep]
      exact se_lrng2 (t := t) G.calm e1 f1 e2 e3 f2 f3 h3 h4 (iha.1 X c k fa fd C G _ h6).1 (ihb.1 X c k fa fd C G _ h7).1
  | tidx o a iho iha =>
    refine ⟨fun X c k fa fd C G x h => ?_, noL fun _ _ => rfl, noI fun _ _ => rfl⟩
    unfold ckE at h
    split at h <;> first | (cases h; done) | skip
    simp only [Bool.and_eq_true, decide_eq_true_eq, Bool.not_eq_true'] at h
    obtain ⟨rfl, h1, h2, h3, h4, h5⟩ := h
    exact .ofE rfl (se_tidx h3 h1 h2 (iho.1 X c k fa fd C G _ h4).1 (iha.1 X c k fa fd C G _ h5).1)
  | gint x i =>
    refine ⟨fun X c k fa fd C G x h => ?_, noL fun _ _ => rfl, noI fun _ _ => rfl⟩
    unfold ckE at h
    split at h <;> first | (cases h; done) | skip
    simp only [Bool.and_eq_true, decide_eq_true_eq] at h
    obtain ⟨rfl, ⟨h1, h2⟩, h3⟩ := h
    obtain ⟨p, hp, e⟩ := List.any_eq_true.mp h3
    have e := of_decide_eq_true e
    subst e
    obtain ⟨t, ht⟩ := G.kints _ hp
    exact .ofE rfl (se_gl (v := .int i) (gl_of G h1) ht ⟨t, rfl⟩ (fun _ => .int i) (okN_of h2).1)
  | gstr x i =>
    refine ⟨fun X c k fa fd C G x h => ?_, noL fun _ _ => rfl, noI fun _ _ => rfl⟩
    unfold ckE at h
    split at h <;> first | (cases h; done) | skip
    simp only [Bool.and_eq_true, decide_eq_true_eq] at h
    obtain ⟨rfl, ⟨h1, h2⟩, h3⟩ := h
    obtain ⟨p, hp, e⟩ := List.any_eq_true.mp h3
    have e := of_decide_eq_true e
    subst e
    obtain ⟨t, ht⟩ := G.kstrs _ hp
    exact .ofE rfl (se_gl (v := .str i) (gl_of G h1) ht ⟨t, rfl⟩ (fun _ => .str i) (okN_of h2).1)
  | iSeq a ih =>
    refine ⟨noE fun _ _ => rfl, noL fun _ _ => rfl, fun X c k fa fd C G x tg h hen => .inl ?_⟩
    exact si_seq (ih.1 X c k fa fd C G _ h).1
  | iRev a ih =>
    refine ⟨noE fun _ _ => rfl, noL fun _ _ => rfl, fun X c k fa fd C G x tg h hen => .inl ?_⟩
    unfold ckI at h
    split at h <;> first | (cases h; done) | skip
    rw [Bool.and_eq_true, Bool.and_eq_true] at h
    obtain ⟨h1, h2, h3⟩ := h
    obtain ⟨e1, e2, e3, e4, e5⟩ := gBl_of G h1 (by decide +kernel)
    exact si_rev e1 e2 e3 (by simpa using h2) (ih.1 X c k fa fd C G _ h3).1
  | iRange a ih =>
    refine ⟨noE fun _ _ => rfl, noL fun _ _ => rfl, fun X c k fa fd C G x tg h hen => .inl ?_⟩
    unfold ckI at h
    split at h <;> first | (cases h; done) | skip
    rw [Bool.and_eq_true, Bool.and_eq_true] at h
    obtain ⟨h1, h2, h3⟩ := h
    obtain ⟨e1, e2, e3, e4, e5⟩ := gBl_of G h1 (by decide +kernel)
    exact si_rng e1 e2 e3 (by simpa using h2) (ih.1 X c k fa fd C G _ h3).1
  | iRange2 a b iha ihb =>
    refine ⟨noE fun _ _ => rfl, noL fun _ _ => rfl, fun X c k fa fd C G x tg h hen => .inl ?_⟩
    unfold ckI at h
    split at h <;> first | (cases h; done) | skip
    rw [Bool.and_eq_true, Bool.and_eq_true, Bool.and_eq_true, Bool.and_eq_true] at h
    obtain ⟨h1, h2, h3, h4, h5⟩ := h
    obtain ⟨e1, e2, e3, e4, e5⟩ := gBl_of G h1 (by decide +kernel)
    exact si_rng2 e1 e2 e3 (by simpa using h2) (by simpa using h3) (iha.1 X c k fa fd C G _ h4).1 (ihb.1 X c k fa fd C G _ h5).1
  | iEnum a ih =>
    refine ⟨noE fun _ _ => rfl, noL fun _ _ => rfl, fun X c k fa fd C G x tg h hen => .inl ?_⟩
    cases tg <;> first | (cases hen; done) | skip
    unfold ckI at h
    split at h <;> first | (cases h; done) | skip
    rw [Bool.and_eq_true, Bool.and_eq_true] at h
    obtain ⟨h1, h2, h3⟩ := h
    obtain ⟨e1, e2, e3, e4, e5⟩ := gBl_of G h1 (by decide +kernel)
    exact si_enum e1 e2 e3 (by simpa using h2) (ih.1 X c k fa fd C G _ h3).1
  | iKeys a ih =>
    refine ⟨noE fun _ _ => rfl, noL fun _ _ => rfl, fun X c k fa fd C G x tg h hen => .inr ?_⟩
    unfold ckI at h
    split at h <;> first | (cases h; done) | skip
    split at h <;> first | (cases h; done) | skip
    exact ⟨_, rfl, pe_varB G h⟩
end Pl

set_option maxHeartbeats 4000000
/-! statements and defs: the check and its worth -/
namespace Pl
open PySem L2
/-- a comprehension stored by its own rule -/
def swapB (x : Str) (p' : Pos) (v : Expr) : Bool := match v with
  | .ListComp _ _ scope vp => (p'.line == vp.line) && !(scope.names.any fun (n, k) => n == x && (k == .local || k == .cell))
  | _ => false
mutual
def ckS : S → Ck → Stmt → Bool
  | .skip, _, st => (match st with | .Pass _ => true | _ => false)
  | .seq _ _, _, _ => false
  | .asg i e, c, st => (match st with
    | .Assign [.Name x p'] v _ => decide (c.N[i]? = some x) && (locB c.sc x && (ckE e c v && (if isComp v = true then swapB x p' v else true)))
    | _ => false)
  | .asgT is e, c, st => (match st with | .Assign [.Tuple es _ _] v _ => namesB c.N (locB c.sc) is es && (notTup v && ckE e c v) | _ => false)
  | .asgU is e, c, st => (match st with | .Assign [.Tuple es _ _] v _ => namesB c.N (locB c.sc) is es && (notTup v && ckE e c v) | _ => false)
  | .par _ _ _ _, _, _ => false
  | .setF cn f o e, c, st => (match st with | .Assign [.Attribute x a _] v _ => decide (a = f) && (hasFld c cn f && (ckE e c v && ckE o c x)) | _ => false)
  | .setIx o i e, c, st => (match st with | .Assign [.Subscript x y _] v _ => notSlice y && (ckE e c v && (ckE o c x && ckE i c y)) | _ => false)
  | .augV i op e, c, st => (match st with | .AugAssign (.Name x _) o v _ => decide (iopOf op = some o) && (decide (c.N[i]? = some x) && (locB c.sc x && ckE e c v)) | _ => false)
  | .augIx o i op e, c, st => (match st with | .AugAssign (.Subscript x y _) oo v _ => decide (iopOf op = some oo) && (notSlice y && (ckE o c x && (ckE i c y && ckE e c v))) | _ => false)
  | .ifs d a b, c, st => (match st with | .If x p q _ => ckE d c x && (ckB a c p && ckB b c q) | _ => false)
  | .for_ tg it b, c, st => (match st with | .For g x body [] _ => ckTg tg c.N (locB c.sc) g && ((enOk it g && ckI it c x) && (notSet x && ckB b c body)) | _ => false)
  | .whl d b, c, st => (match st with | .While x body [] _ => ckE d c x && ckB b c body | _ => false)
  | .ret e, c, st => (match st with | .Return (some x) _ => ckE e c x | _ => false)
  | .retN, _, st => (match st with | .Return none _ => true | _ => false)
  | .brk, _, st => (match st with | .Break _ => true | _ => false)
  | .cnt, _, st => (match st with | .Continue _ => true | _ => false)
  | .expr e, c, st => (match st with | .Expr x _ => !isComp x && ckE e c x | _ => false)
  | .nvr, _, _ => true
def ckB : S → Ck → List Stmt → Bool
  | .skip, _, sts => sts.isEmpty
  | .seq a b, c, sts => (match sts with | st :: r => ckS a c st && ckB b c r | [] => false)
  | .nvr, _, _ => true
  | _, _, _ => false
end
section
variable {X : Cx} {c : Ck} {k : Nat} {fa : Nat → Addr} {fd : Nat → FuncData} {C : CE}
theorem swap_of (G : Gd X c k fa fd C) {x : Str} {p' vp : Pos} {elt : Expr} {gs : List Comprehension} {scope : Scope} {l : Nat} (hk : X.env.scope.kind = .function) (hs : swapB x p' (.ListComp elt gs scope vp) = true) :
    (ownB c.sc x = true → swapsWith (.ListComp elt gs scope vp) (some (.Name x p')) l X.env = pure true) ∧ (ownB c.sc x = false → swapsWith (.ListComp elt gs scope vp) (some (.Name x p')) l X.env = pure false) := by
  unfold swapB at hs
  rw [Bool.and_eq_true] at hs
  have h2 : (scope.names.any fun (n, k) => n == x && (k == .local || k == .cell)) = false := by simpa using hs.2
  refine ⟨fun h => sw_true hk (own_of G h) hs.1 h2, fun h => ?_⟩
  have hb : X.env.blockKind = .function := by unfold Env.blockKind; rw [hk]; rfl
  have hn : (X.env.kindOf x == some .local) = false := by
    have e : X.env.kindOf x = c.sc.names.lookup x := by
      show X.env.scope.names.lookup x = _
      rw [G.sc]
    rw [e]
    unfold ownB at h
    split at h
    · cases h
    · rename_i hz
      cases q : c.sc.names.lookup x with
      | none => rfl
      | some kd => cases kd <;> first | rfl | exact absurd q hz
  unfold swapsWith
  simp only [hn, Bool.and_false, Bool.false_and]
theorem comp_parts (G : Gd X c k fa fd C) {e : E} {x : Expr} {gens : List Comprehension} {scope : Scope} {pos : Pos} (h : ckE e c (.ListComp x gens scope pos) = true) :
    ∃ own tg it fc fe g itx ifs, gens = [⟨g, itx, ifs, 0⟩] ∧ (w C e).e = compW (w C it).i tg fc fe ∧ CompOk X g x ifs scope own tg fc fe ∧ notSet itx = true ∧ (SI X g itx (w C it).i ∨ ∃ i, it = .iKeys (.var i) ∧ PE X itx (tVar i)) := by
  cases e <;> first | (unfold ckE at h; cases h; done) | (unfold ckE at h; simp at h; done) | skip
  rename_i own tg it cnd elt
  unfold ckE at h
  split at h <;> first | (cases h; done) | skip
  rename_i e2 x2 g itx ifs is_ scope2 pos2 heq
  cases heq
  rw [Bool.and_eq_true, Bool.and_eq_true, Bool.and_eq_true, Bool.and_eq_true, Bool.and_eq_true, Bool.and_eq_true, Bool.and_eq_true, Bool.and_eq_true] at h
  obtain ⟨h1, ⟨hen, h2⟩, h3, h4, h5, h6, h7, h8⟩ := h
  obtain rfl : is_ = 0 := of_decide_eq_true h1
  have co := compOk_of G (sound cnd).1 (sound elt).1 h4 (of_decide_eq_true h5) h6 h7 h8
  exact ⟨own, tg, it, _, _, g, itx, ifs, rfl, rfl, co, h3, (sound it).2.2 X c k fa fd C G itx g h2 hen⟩
end
def SndS (a : S) : Prop := ∀ (X : Cx) (c : Ck) (k : Nat) (fa : Nat → Addr) (fd : Nat → FuncData) (C : CE), Gd X c k fa fd C → (∀ x, X.fn x = true) → X.env.scope.kind = .function → ∀ st, ckS a c st = true → SS X (wS C a) st
def SndB (a : S) : Prop := ∀ (X : Cx) (c : Ck) (k : Nat) (fa : Nat → Addr) (fd : Nat → FuncData) (C : CE), Gd X c k fa fd C → (∀ x, X.fn x = true) → X.env.scope.kind = .function → ∀ sts, ckB a c sts = true → SSs X (wS C a) sts
theorem noB {a : S} (h : ∀ c x, ckB a c x = false) : SndB a := fun X c k fa fd C G hf hk x q => by rw [h c x] at q; cases q
theorem noS {a : S} (h : ∀ c x, ckS a c x = false) : SndS a := fun X c k fa fd C G hf hk x q => by rw [h c x] at q; cases q
theorem soundS (a : S) : SndS a ∧ SndB a := by
  induction a with
  | skip =>
    refine ⟨fun X c k fa fd C G hf hk st h => ?_, fun X c k fa fd C G hf hk sts h => ?_⟩
    · unfold ckS at h
      split at h <;> first | (cases h; done) | skip
      exact ss_pass
    · cases sts with
      | nil => exact sss_nil
      | cons _ _ => cases h
  | seq a b iha ihb =>
    refine ⟨noS fun _ _ => rfl, fun X c k fa fd C G hf hk sts h => ?_⟩
    cases sts with
    | nil => cases h
    | cons st r =>
      have h : (ckS a c st && ckB b c r) = true := h
      rw [Bool.and_eq_true] at h
      exact sss_cons (f := wS C a) (g := wS C b) (iha.1 X c k fa fd C G hf hk st h.1) (ihb.2 X c k fa fd C G hf hk r h.2)
  | asg i e =>
    refine ⟨fun X c k fa fd C G hf hk st h => ?_, noB fun _ _ => rfl⟩
    unfold ckS at h
    split at h <;> first | (cases h; done) | skip
    rename_i st x p' v pos
    rw [Bool.and_eq_true, Bool.and_eq_true, Bool.and_eq_true] at h
    obtain ⟨h1, h2, h3, h4⟩ := h
    have hN : X.N.Nodup := by rw [G.N]; exact G.nd
    have hi : X.N[i]? = some x := by rw [G.N]; exact of_decide_eq_true h1
    cases hc : isComp v with
    | false => exact ss_asg hN hi (loc_of G h2) (no_swap hc) (hf x) ((sound e).1 X c k fa fd C G v h3).1
    | true =>
      rw [if_pos hc] at h4
      cases v <;> first | (cases h4; done) | skip
      rename_i elt gens scope vp
      obtain ⟨s1, s2⟩ := swap_of (l := pos.line) G hk h4
      cases ho : ownB c.sc x with
      | false => exact ss_asg hN hi (loc_of G h2) (s2 ho) (hf x) ((sound e).1 X c k fa fd C G _ h3).1
      | true =>
        obtain ⟨own, tg, it, fc, fe, g, itx, ifs, rfl, ew, co, hs, hit⟩ := comp_parts G h3
        show SS X (fun D σ M => (w C e).e σ M fun x M1 => D.nx (σ.set i (some x)) M1) _
        rw [ew]
        rcases hit with hit | ⟨j, rfl, hit⟩
        · exact ss_asgC hi (own_of G ho) (s1 ho) hit co hs
        · exact ss_asgCK hi (own_of G ho) (s1 ho) hit co hs
  | asgT is e =>
    refine ⟨fun X c k fa fd C G hf hk st h => ?_, noB fun _ _ => rfl⟩
    unfold ckS at h
    split at h <;> first | (cases h; done) | skip
    rw [Bool.and_eq_true, Bool.and_eq_true] at h
    obtain ⟨h1, h2, h3⟩ := h
    exact ss_asgT G.calm (by rw [G.N]; exact G.nd) (ok := locB c.sc) (fun x hx => ⟨loc_of G hx, .inl (hf x)⟩) (by rw [G.N]; exact h1) h2 ((sound e).1 X c k fa fd C G _ h3).1
  | asgU is e =>
    refine ⟨fun X c k fa fd C G hf hk st h => ?_, noB fun _ _ => rfl⟩
    unfold ckS at h
    split at h <;> first | (cases h; done) | skip
    rw [Bool.and_eq_true, Bool.and_eq_true] at h
    obtain ⟨h1, h2, h3⟩ := h
    exact ss_asgU G.calm (by rw [G.N]; exact G.nd) (ok := locB c.sc) (fun x hx => ⟨loc_of G hx, .inl (hf x)⟩) (by rw [G.N]; exact h1) h2 ((sound e).1 X c k fa fd C G _ h3).1
  | par i j a b => exact ⟨noS fun _ _ => rfl, noB fun _ _ => rfl⟩
  | setF cn f o e =>
    refine ⟨fun X c k fa fd C G hf hk st h => ?_, noB fun _ _ => rfl⟩
    unfold ckS at h
    split at h <;> first | (cases h; done) | skip
    simp only [Bool.and_eq_true, decide_eq_true_eq] at h
    obtain ⟨rfl, h1, h2, h3⟩ := h
    obtain ⟨cd, hcd, hcn, p, hp, rfl⟩ : ∃ cd, cd ∈ c.cs ∧ cd.name = cn ∧ ∃ p ∈ cd.flds, p = _ := by
      unfold hasFld at h1
      obtain ⟨cd, h7, h8⟩ := List.any_eq_true.mp h1
      rw [Bool.and_eq_true] at h8
      obtain ⟨p, h9, h10⟩ := List.any_eq_true.mp h8.2
      exact ⟨cd, h7, of_decide_eq_true h8.1, p, h9, of_decide_eq_true h10⟩
    subst hcn
    have ck := G.clss cd hcd
    exact ss_setF ck.cls (ck.flds _ hp) ((sound e).1 X c k fa fd C G _ h2).1 ((sound o).1 X c k fa fd C G _ h3).1
  | setIx o i e =>
    refine ⟨fun X c k fa fd C G hf hk st h => ?_, noB fun _ _ => rfl⟩
    unfold ckS at h
    split at h <;> first | (cases h; done) | skip
    rw [Bool.and_eq_true, Bool.and_eq_true, Bool.and_eq_true] at h
    obtain ⟨h0, h1, h2, h3⟩ := h
    exact ss_setIx G.u66 ((sound e).1 X c k fa fd C G _ h1).1 ((sound o).1 X c k fa fd C G _ h2).1 ((sound i).1 X c k fa fd C G _ h3).1 h0
  | augV i op e =>
    refine ⟨fun X c k fa fd C G hf hk st h => ?_, noB fun _ _ => rfl⟩
    unfold ckS at h
    split at h <;> first | (cases h; done) | skip
    rw [Bool.and_eq_true, Bool.and_eq_true, Bool.and_eq_true] at h
    obtain ⟨h0, h1, h2, h3⟩ := h
    exact ss_augV (of_decide_eq_true h0) (by rw [G.N]; exact G.nd) (by rw [G.N]; exact of_decide_eq_true h1) (loc_of G h2) (hf _) ((sound e).1 X c k fa fd C G _ h3).1
  | augIx o i op e =>
    refine ⟨fun X c k fa fd C G hf hk st h => ?_, noB fun _ _ => rfl⟩
    unfold ckS at h
    split at h <;> first | (cases h; done) | skip
    rw [Bool.and_eq_true, Bool.and_eq_true, Bool.and_eq_true, Bool.and_eq_true] at h
    obtain ⟨h0, hs, h1, h2, h3⟩ := h
    exact ss_augIx (of_decide_eq_true h0) G.u66 ((sound o).1 X c k fa fd C G _ h1).1 ((sound i).1 X c k fa fd C G _ h2).1 ((sound e).1 X c k fa fd C G _ h3).1 hs
  | ifs d a b iha ihb =>
    refine ⟨fun X c k fa fd C G hf hk st h => ?_, noB fun _ _ => rfl⟩
    unfold ckS at h
    split at h <;> first | (cases h; done) | skip
    rw [Bool.and_eq_true, Bool.and_eq_true] at h
    obtain ⟨h1, h2, h3⟩ := h
    exact ss_if ((sound d).1 X c k fa fd C G _ h1).2 (iha.2 X c k fa fd C G hf hk _ h2) (ihb.2 X c k fa fd C G hf hk _ h3)
  | for_ tg it b ih =>
    refine ⟨fun X c k fa fd C G hf hk st h => ?_, noB fun _ _ => rfl⟩
    unfold ckS at h
    split at h <;> first | (cases h; done) | skip
    rename_i st g x body pos
    rw [Bool.and_eq_true, Bool.and_eq_true, Bool.and_eq_true, Bool.and_eq_true] at h
    obtain ⟨h1, ⟨hen, h2⟩, h3, h4⟩ := h
    have hb := ih.2 X c k fa fd C G hf hk _ h4
    rcases (sound it).2.2 X c k fa fd C G x g h2 hen with hi | ⟨i, rfl, hi⟩
    · exact ss_for G.xe G.calm hi (sg_ofF G hf h1) hb h3
    · exact ss_forK G.xe G.calm hi (sg_ofF G hf h1) hb h3
  | whl d b ih =>
    refine ⟨fun X c k fa fd C G hf hk st h => ?_, noB fun _ _ => rfl⟩
    unfold ckS at h
    split at h <;> first | (cases h; done) | skip
    rw [Bool.and_eq_true] at h
    exact ss_whl G.xe ((sound d).1 X c k fa fd C G _ h.1).2 (ih.2 X c k fa fd C G hf hk _ h.2)
  | ret e =>
    refine ⟨fun X c k fa fd C G hf hk st h => ?_, noB fun _ _ => rfl⟩
    unfold ckS at h
    split at h <;> first | (cases h; done) | skip
    exact ss_ret ((sound e).1 X c k fa fd C G _ h).1
  | retN =>
    refine ⟨fun X c k fa fd C G hf hk st h => ?_, noB fun _ _ => rfl⟩
    unfold ckS at h
    split at h <;> first | (cases h; done) | skip
    exact ss_retN
  | brk =>
    refine ⟨fun X c k fa fd C G hf hk st h => ?_, noB fun _ _ => rfl⟩
    unfold ckS at h
    split at h <;> first | (cases h; done) | skip
    exact ss_break
  | cnt =>
    refine ⟨fun X c k fa fd C G hf hk st h => ?_, noB fun _ _ => rfl⟩
    unfold ckS at h
    split at h <;> first | (cases h; done) | skip
    exact ss_cont
  | expr e =>
    refine ⟨fun X c k fa fd C G hf hk st h => ?_, noB fun _ _ => rfl⟩
    unfold ckS at h
    split at h <;> first | (cases h; done) | skip
    rw [Bool.and_eq_true] at h
    exact ss_expr (by simpa using h.1) ((sound e).1 X c k fa fd C G _ h.2).1
  | nvr => exact ⟨fun X c k fa fd C G hf hk st h => ss_nvr, fun X c k fa fd C G hf hk sts h => sss_nvr⟩
end Pl

set_option maxHeartbeats 400000
/-! the defs of a text keep their promises -/
namespace Pl
open PySem L2
def scopeB (N ps : List Str) (sc : Scope) : Bool :=
  decide (sc.kind = .function) && (!sc.isCoroutine && (!sc.isGenerator && (decide N.Nodup && (decide (N.take ps.length = ps) && ((ps.all fun x => locB sc x) && sc.names.all fun y => decide (y.2 ≠ .free))))))
theorem scope_of {N ps : List Str} {sc : Scope} (h : scopeB N ps sc = true) : FnScope N ps sc := by
  unfold scopeB at h
  simp only [Bool.and_eq_true, decide_eq_true_eq, Bool.not_eq_true', List.all_eq_true] at h
  obtain ⟨h1, h2, h3, h4, h5, h6, h7⟩ := h
  refine ⟨h1, h2, h3, h4, h5, fun x hx => ?_, fun y hy => h7 y hy⟩
  have q := h6 x hx
  unfold locB at q
  split at q
  · exact .inl (by assumption)
  · exact .inr (by assumption)
  · cases q
/-- a text: its defs, its classes, its constants -/
structure Pg where
  T : List Df
  cs : List Cd := []
  ks : List (Str × Int) := []
  ss : List (Str × Str) := []
def Pg.ck (G : Pg) (d : Df) (st : Stmt) : Ck := ⟨defScope st, d.N, G.T, G.cs, G.ks, G.ss⟩
/-- one def against its text -/
def ckF (G : Pg) (d : Df) (st : Stmt) : Bool := scopeB d.N d.ps (defScope st) && ckB d.b (G.ck d st) (defBody st)
/-- its arguments bind -/
def BindP (x q : Str) (st : Stmt) (ps : List Str) : Prop := ∀ (kV doc pm : Value) (an : Option Addr) (cdv ct : Value) (us : List Value), us.length = ps.length → bindArgs (PySem.W.fnOf x q (defArgs st) (defBody st) (defScope st) .none kV doc pm an cdv ct) ⟨us, []⟩ = pure (ps.zip us)
theorem Cs_len {T : List Df} {k i : Nat} {d : Df} {us : List U} {M : Hm} {Q : QU} (hd : T[i]? = some d) (h : Cs T k i us M Q) : us.length = d.ps.length := by
  cases k with
  | zero => exact h.elim
  | succ k =>
    obtain ⟨d', hd', hl, _⟩ := h
    rw [hd] at hd'
    cases hd'
    exact hl
theorem relS_start {K : Kw} {H : Hp} {N : List Str} {vs : List V} {us : List U} (r : RelL K H vs us) : RelS K H (L2.start N vs) (startU N.length us) := by
  refine ⟨by unfold L2.start startU; simp [r.length], fun i u e => ?_⟩
  unfold startU at e
  by_cases hi : i < us.length
  · rw [List.getElem?_append_left (by simpa using hi), List.getElem?_map] at e
    cases q : us[i]? with
    | none => rw [q] at e; cases e
    | some u' =>
      rw [q] at e
      cases e
      obtain ⟨v, hv, rv⟩ := r.get q
      refine ⟨v, ?_, rv⟩
      unfold L2.start
      rw [List.getElem?_append_left (by simpa [r.length] using hi), List.getElem?_map, hv]
      rfl
  · rw [List.getElem?_append_right (by simpa using hi)] at e
    rw [List.getElem?_replicate] at e
    split at e <;> cases e
section
variable {P : Program} {wd : World} {K : Fg} {mg : Str → Option Value} {base : Heap}
theorem fn_ok {G : Pg} {fa : Nat → Addr} {fd : Nat → FuncData}
    (hF : ∀ i d, G.T[i]? = some d → ∃ st, FunD K d.name d.qual (defArgs st) (defBody st) (defScope st) [] [] (fa i) (fd i) ∧ ckF G d st = true ∧ BindP d.name d.qual st d.ps)
    (hmg : ∀ i d, G.T[i]? = some d → d.cls = none → mg d.name = some (.ref (fa i))) (hblt : ∀ x ∈ bltNames, mg x = none) (hcls : ∀ cd ∈ G.cs, ClsK K mg fa cd)
    (hks : ∀ p ∈ G.ks, ∃ t, mg p.1 = some (.int p.2 t)) (hss : ∀ p ∈ G.ss, ∃ t, mg p.1 = some (.str p.2 t)) :
    ∀ (k i : Nat) (d : Df), G.T[i]? = some d → FnOk P wd K mg base CX0 (2 * k) (fa i) (fd i) d.ps (spOf (K, wd) (Cs G.T k i)) := by
  intro k
  induction k with
  | zero =>
    intro i d hd
    refine ⟨fun vs H Q E ⟨us, M, Qu, S, r, h, c⟩ => h.elim, fun A outer s H args us vs Q E _ _ _ _ ⟨_, _, _, _, _, h, _⟩ => h.elim⟩
  | succ k ih =>
    intro i d hd
    obtain ⟨st, F, ck, _⟩ := hF i d hd
    unfold ckF at ck
    rw [Bool.and_eq_true] at ck
    refine F.ok (k := 2 * k + 1) (scope_of ck.1) (fun vs H Q E ⟨us, M, Qu, S, r, h, c⟩ => by rw [r.length]; exact Cs_len hd h) (fun cdv A outer s H vs Q E hr ⟨us, M, Qu, S, r, h, c⟩ => ?_)
    have Gg : Gd (cxOf CX0 P wd K mg base d.N d.qual (defScope st) (fa i) cdv A outer s H E).nox (G.ck d st) (2 * k) fa fd (Cs G.T k) := by
      refine ⟨rfl, rfl, (scope_of ck.1).nd, rfl, rfl, hr, hblt, fun j dj hj => ?_, hcls, hks, hss⟩
      obtain ⟨stj, Fj, _, bj⟩ := hF j dj hj
      exact ⟨hmg j dj hj, Fj.kp, Fj.bindsN bj, ih j dj hj⟩
    obtain ⟨t, p, q⟩ := (soundS d.b).2 _ _ (2 * k) fa fd (Cs G.T k) Gg (fun _ => rfl) (scope_of ck.1).kind _ ck.2
    refine ⟨t, p.nox, ?_⟩
    obtain ⟨d', hd', hl, hw⟩ := h
    rw [hd] at hd'
    cases hd'
    refine q _ _ _ H _ M (relS_start r) S hw ⟨fun σ' H' σu' M' st' rs' S' ⟨M2, sb, hq⟩ => ?_, fun v H' u M' st' S' rv ⟨M2, sb, hq⟩ => ?_, fun _ _ _ _ _ _ _ z => z.elim, fun _ _ _ _ _ _ _ z => z.elim⟩
    · exact c _ _ .non M2 (st'.trans S (Stp.sub sb)) (S'.sub sb) .non hq
    · exact c _ _ u M2 (st'.trans S (Stp.sub sb)) (S'.sub sb) rv hq
end

/-! ### the head's facts for such a text -/
def nameOf : Stmt → Str
  | .FunctionDef n .. => n
  | _ => ""
/-- a class's i-th statement -/
def inCls (s : Stmt) (i : Nat) : Stmt := match s with
  | .ClassDef (body := b) .. => b.getD i (.Pass ⟨0, 0, 0, 0⟩)
  | _ => .Pass ⟨0, 0, 0, 0⟩
/-- the table against the text, def by def -/
def ckT (G : Pg) (sts : List Stmt) : Bool := decide (G.T.length = sts.length) && (List.zip G.T sts).all fun (p : Df × Stmt) => decide (nameOf p.2 = p.1.name) && ckF G p.1 p.2
theorem ckT_at {G : Pg} {sts : List Stmt} (h : ckT G sts = true) {i : Nat} {d : Df} (hd : G.T[i]? = some d) : ∃ st, sts[i]? = some st ∧ nameOf st = d.name ∧ ckF G d st = true := by
  unfold ckT at h
  rw [Bool.and_eq_true, decide_eq_true_eq] at h
  obtain ⟨h1, h2⟩ := h
  have hi := (List.getElem?_eq_some_iff.mp hd).1
  have hs : sts[i]? = some (sts[i]'(by omega)) := List.getElem?_eq_getElem (by omega)
  have hz : (List.zip G.T sts)[i]? = some (d, sts[i]'(by omega)) := by
    rw [List.getElem?_zip_eq_some]
    exact ⟨hd, hs⟩
  have q := List.all_eq_true.mp h2 _ (List.mem_of_getElem? hz)
  rw [Bool.and_eq_true, decide_eq_true_eq] at q
  exact ⟨_, hs, q.1, q.2⟩
/-- the getter of a property -/
def gtAd (K : Fg) (c m : Str) : Addr := match PySem.W.recIn K (He.ma K (cad K c) m) "property" with
  | some (.ref g :: _) => g
  | _ => 0
/-- where a def lies -/
def adOf (K : Fg) (d : Df) : Addr := match d.cls with
  | none => He.ga K d.name
  | some c => if d.prp = true then gtAd K c d.name else He.ma K (cad K c) d.name
def adAt (T : List Df) (K : Fg) (i : Nat) : Addr := (T[i]?).elim 0 (adOf K)
theorem adAt_of {T : List Df} {K : Fg} {i : Nat} {d : Df} (h : T[i]? = some d) : adAt T K i = adOf K d := by
  unfold adAt
  rw [h]
  rfl
abbrev DefV : Type := Option (Str × Str × Arguments × FuncBody × Scope × Addr × List (Str × Addr) × Addr)
def seeF (K : Fg) (a : Addr) : DefV := match K.lookup a with
  | some ⟨_, _, .func z, _⟩ => some (z.name, z.qualname, z.params, z.body, z.scope, z.globals, z.closure, z.builtins)
  | _ => none
def dueF (p : Df × Stmt) : DefV := some (p.1.name, p.1.qual, defArgs p.2, .stmts (defBody p.2), defScope p.2, mainGlobals, [], builtinsNs)
def isNoneV : Value → Bool
  | .none => true
  | _ => false
def okF (K : Fg) (a : Addr) (q : Str) : Bool := PySem.W.keepIn K (.ref a) && (match K.lookup a with
  | some ⟨_, _, .func z, _⟩ => PySem.W.codeIn K z.code q && isNoneV z.defaults
  | _ => false)
theorem funD_of {K : Fg} {a : Addr} {p : Df × Stmt} (e : seeF K a = dueF p) (c : okF K a p.1.qual = true) : ∃ fd, FunD K p.1.name p.1.qual (defArgs p.2) (defBody p.2) (defScope p.2) [] [] a fd := by
  unfold okF at c
  rw [Bool.and_eq_true] at c
  obtain ⟨c1, c2⟩ := c
  unfold seeF at e
  unfold dueF at e
  cases lk : K.lookup a with
  | none => rw [lk] at e; cases e
  | some ob =>
    obtain ⟨w1, w2, dat, w4⟩ := ob
    rw [lk] at e c2
    cases dat with
    | func z =>
      obtain ⟨z1, z2, z3, z4, z5, z6, z7, z8, z9, z10, z11, z12, z13, z14, z15⟩ := z
      simp only [Option.some.injEq, Prod.mk.injEq] at e
      obtain ⟨g1, g2, g3, g4, g5, g6, g7, g8⟩ := e
      subst g1 g2 g3 g4 g5 g6 g7 g8
      simp only [Bool.and_eq_true] at c2
      obtain ⟨c3, c4⟩ := c2
      cases z8 with
      | none => exact ⟨_, ⟨w1, w2, .none, z9, z10, z11, z12, z13, z14, w4, rfl, lk, c3, .inl ⟨rfl, rfl⟩, .inl rfl⟩, c1⟩
      | _ => cases c4
    | _ => cases c2
/-- a property of a class -/
def okP (K : Fg) (T : List Df) (cn : Str) (q : Str × Nat) : Bool := He.eqO (PySem.W.findIn K (.ref (cad K cn)) q.1) (some (some (.ref (He.ma K (cad K cn) q.1)))) &&
  (decide (PySem.W.specialIn K (.ref (He.ma K (cad K cn) q.1)) "__get__" = some (some (.builtin "property.__get__"))) && (decide (PySem.W.takesIn K (.ref (He.ma K (cad K cn) q.1)) = some true) &&
    (match PySem.W.recIn K (He.ma K (cad K cn) q.1) "property" with
    | some (.ref z :: _) => decide (z = adAt T K q.2)
    | _ => false)))
theorem okP_of {K : Fg} {T : List Df} {cn : Str} {q : Str × Nat} (h : okP K T cn q = true) : ∃ pa, PropOf K (cad K cn) q.1 pa (adAt T K q.2) := by
  unfold okP at h
  simp only [Bool.and_eq_true, decide_eq_true_eq] at h
  obtain ⟨h1, h2, h3, h4⟩ := h
  refine ⟨_, He.eqO_ok h1, h2, h3, ?_⟩
  cases e : PySem.W.recIn K (He.ma K (cad K cn) q.1) "property" with
  | none => rw [e] at h4; cases h4
  | some l =>
    rw [e] at h4
    cases l with
    | nil => cases h4
    | cons v r =>
      cases v with
      | ref z => exact ⟨r, by rw [of_decide_eq_true h4]⟩
      | _ => cases h4
def okC (K : Fg) (T : List Df) (cd : Cd) : Bool := (He.Fa.cls cd.name).ok K && ((cd.flds.all fun f => (He.Fa.noat cd.name f).ok K) && ((cd.mets.all fun q => (He.Fa.meth cd.name q.1).ok K && decide (He.ma K (cad K cd.name) q.1 = adAt T K q.2)) &&
  ((cd.prps.all fun q => okP K T cd.name q) && (match cd.init with
  | none => true
  | some i => (He.Fa.mkr cd.name).ok K && ((He.Fa.glo cd.name).ok K && decide (He.ma K (cad K cd.name) "__init__" = adAt T K i))))))
theorem okC_of {K : Fg} {h : Heap} {mg : Str → Option Value} (X : K.In h) (G : h.Ns mainGlobals mg) {T : List Df} {cd : Cd} (c : okC K T cd = true) : ClsK K mg (adAt T K) cd := by
  unfold okC at c
  simp only [Bool.and_eq_true, List.all_eq_true] at c
  obtain ⟨c1, c2, c3, c4, c5⟩ := c
  refine ⟨He.cls_ok c1, fun f hf => He.noat_ok (c2 f hf), fun q hq => ?_, fun q hq => okP_of (c4 q hq), fun i hi => ?_⟩
  · obtain ⟨a, b⟩ := c3 q hq
    rw [← of_decide_eq_true b]
    exact He.meth_ok a
  · rw [hi] at c5
    simp only [Bool.and_eq_true] at c5
    obtain ⟨a, b, d⟩ := c5
    rw [← of_decide_eq_true d]
    exact ⟨He.mkr_ok a, He.glo_ok X G b⟩
/-- all that the head must tell -/
def facts (G : Pg) : List He.Fa := ((G.T.filter fun d => decide (d.cls = none)).map fun d => .glo d.name) ++ (bltNames.map He.Fa.free ++ (G.ks.map (fun p => He.Fa.int p.1 p.2) ++ G.ss.map fun p => He.Fa.str p.1 p.2))
abbrev AlX : Type := Bool × List DefV
def obsX (G : Pg) (K : Fg) : AlX := (((facts G).all fun f => f.ok K) && ((G.T.all fun d => okF K (adOf K d) d.qual) && G.cs.all fun cd => okC K G.T cd), G.T.map fun d => seeF K (adOf K d))
def valX (G : Pg) (sts : List Stmt) : AlX := (true, (List.zip G.T sts).map dueF)
def SaysX (G : Pg) (sts : List Stmt) (K : Fg) : Prop := obsX G K = valX G sts
def obsXG (n : Nat) (G : Pg) (g : Addr → Option Obj) : AlX := obsX G (He.frG g (He.asD g n))
def hookX (n : Nat) (G : Pg) (sts : List Stmt) : PySem.W.Hook where
  α := AlX
  obs := fun s => obsXG n G s.heap.get?
  val := fun _ => valX G sts
  says := fun _ h => ∃ K : Fg, K.In h ∧ SaysX G sts K
  of := fun _ _ e => ⟨_, He.frG_in, e⟩
  keeps := fun _ _ _ ⟨K, hK, c⟩ k => ⟨K, PySem.W.Frag.In.keeps hK k, c⟩
theorem obsXG_eq {n : Nat} {G : Pg} {sts : List Stmt} {g : Addr → Option Obj} {s : Shared} (h : ∀ a, g a = s.heap.get? a) : obsXG n G g = (hookX n G sts).obs s := by
  rw [show g = s.heap.get? from funext h]
  rfl
section
variable {G : Pg} {sts : List Stmt} {K : Fg}
theorem SaysX.parts (c : SaysX G sts K) : (∀ f ∈ facts G, f.ok K = true) ∧ (∀ d ∈ G.T, okF K (adOf K d) d.qual = true) ∧ (∀ cd ∈ G.cs, okC K G.T cd = true) ∧ (G.T.map fun d => seeF K (adOf K d)) = (List.zip G.T sts).map dueF := by
  have c1 : (((facts G).all fun f => f.ok K) && ((G.T.all fun d => okF K (adOf K d) d.qual) && G.cs.all fun cd => okC K G.T cd)) = true := congrArg (fun z : AlX => z.1) c
  have c2 := congrArg (fun z : AlX => z.2) c
  simp only [Bool.and_eq_true, List.all_eq_true] at c1
  exact ⟨c1.1, c1.2.1, c1.2.2, c2⟩
theorem opt_inj {α : Type} {a b : α} (h : some a = some b) : a = b := by injection h
theorem vref_inj {a b : Addr} (h : (some (Value.ref a) : Option Value) = some (Value.ref b)) : a = b := by
  injection h with h
  injection h
theorem hglo_of {h : Heap} {mg : Str → Option Value} (X : K.In h) (Gn : h.Ns mainGlobals mg) (c : SaysX G sts K) {i : Nat} {d : Df} (hd : G.T[i]? = some d) (hc : d.cls = none) : mg d.name = some (.ref (adAt G.T K i)) := by
  have q := c.parts.1 (.glo d.name) (List.mem_append_left _ (List.mem_map.mpr ⟨d, List.mem_filter.mpr ⟨List.mem_of_getElem? hd, decide_eq_true hc⟩, rfl⟩))
  rw [adAt_of hd]
  unfold adOf
  rw [hc]
  exact He.glo_ok X Gn q
theorem hfree_of {h : Heap} {mg : Str → Option Value} (X : K.In h) (Gn : h.Ns mainGlobals mg) (c : SaysX G sts K) : ∀ x ∈ bltNames, mg x = none := fun x hx =>
  He.free_ok X Gn (c.parts.1 (.free x) (List.mem_append_right _ (List.mem_append_left _ (List.mem_map.mpr ⟨x, hx, rfl⟩))))
theorem hint_of {h : Heap} {mg : Str → Option Value} (X : K.In h) (Gn : h.Ns mainGlobals mg) (c : SaysX G sts K) : ∀ p ∈ G.ks, ∃ t, mg p.1 = some (.int p.2 t) := fun p hp =>
  He.int_ok X Gn (c.parts.1 (.int p.1 p.2) (List.mem_append_right _ (List.mem_append_right _ (List.mem_append_left _ (List.mem_map.mpr ⟨p, hp, rfl⟩)))))
theorem hstr_of {h : Heap} {mg : Str → Option Value} (X : K.In h) (Gn : h.Ns mainGlobals mg) (c : SaysX G sts K) : ∀ p ∈ G.ss, ∃ t, mg p.1 = some (.str p.2 t) := fun p hp =>
  He.str_ok X Gn (c.parts.1 (.str p.1 p.2) (List.mem_append_right _ (List.mem_append_right _ (List.mem_append_right _ (List.mem_map.mpr ⟨p, hp, rfl⟩)))))
theorem hdef_of (ck : ckT G sts = true) (c : SaysX G sts K) : ∃ fd : Nat → FuncData, ∀ (i : Nat) (d : Df), G.T[i]? = some d → ∃ st, sts[i]? = some st ∧ FunD K d.name d.qual (defArgs st) (defBody st) (defScope st) [] [] (adAt G.T K i) (fd i) ∧ ckF G d st = true := by
  have Fi : ∀ i : Nat, ∃ fd : FuncData, ∀ d : Df, G.T[i]? = some d → ∃ st, sts[i]? = some st ∧ FunD K d.name d.qual (defArgs st) (defBody st) (defScope st) [] [] (adAt G.T K i) fd ∧ ckF G d st = true := fun i => by
    rcases hd : G.T[i]? with _ | d
    · exact ⟨⟨"", "", ⟨[], [], none, [], [], none, []⟩, .stmts [], ⟨.function, [], false, false, []⟩, 0, [], .none, .none, .none, .none, none, .none, .none, 0⟩, fun d h => by cases h⟩
    · obtain ⟨st, hs, e1, e2⟩ := ckT_at ck hd
      have hz : (List.zip G.T sts)[i]? = some (d, st) := by
        rw [List.getElem?_zip_eq_some]
        exact ⟨hd, hs⟩
      have c4 := c.parts.2.2.2
      have e3 : (G.T.map fun d => seeF K (adOf K d))[i]? = ((List.zip G.T sts).map dueF)[i]? := by rw [c4]
      rw [List.getElem?_map, List.getElem?_map, hd, hz] at e3
      obtain ⟨fd, F⟩ := funD_of (p := (d, st)) (opt_inj e3) (c.parts.2.1 d (List.mem_of_getElem? hd))
      refine ⟨fd, fun d' h1 => ?_⟩
      have e := opt_inj h1
      subst e
      exact ⟨st, hs, by rw [adAt_of hd]; exact F, e2⟩
  exact ⟨fun i => Classical.choose (Fi i), fun i => Classical.choose_spec (Fi i)⟩
end
theorem rl_ints {K : Kw} {H : Hp} : ∀ l : List Int, RelL K H (l.map V.int) (l.map U.int)
  | [] => RelL.nil
  | i :: l => RelL.cons (Rel.int i) (rl_ints l)
theorem rl_arg {K : Kw} {H : Hp} {a : Addr} {xs : List V} (hO : Only H) (hS : SqL K H a xs) : Rl K H a xs := by
  rcases hS with hS | hS
  · rcases hS with hS | ⟨o, hS⟩
    · rcases hO a with z | ⟨o, xs, z⟩
      · rw [hS] at z; cases z
      · rw [hS] at z; cases z
    · exact .inl ⟨o, hS⟩
  · exact .inr hS
theorem law_ok {P : Program} {wd : World} {K : Fg} {h : Heap} {mg : Str → Option Value} {f : Addr} {G : Pg} {sts : List Stmt} {n : Nat} {k : Nat} {dl : Df} (ck : ckT G sts = true) (hb : ∀ (i : Nat) (d : Df) (st : Stmt), G.T[i]? = some d → sts[i]? = some st → BindP d.name d.qual st d.ps)
    (hn : G.T[n]? = some dl) (hps : dl.ps = ([("script" : Str)] : List Str)) (hname : dl.name = "law") (hcl : dl.cls = none) (X : K.In h) (Gn : h.Ns mainGlobals mg) (hfa : mg ("law" : Str) = some (.ref f)) (c : SaysX G sts K)
    (hlaw : ∀ ns : List Int, ns.length ≤ 63 → Cs G.T k n [.rol (ns.map U.int)] (fun _ => none) (fun u _ => u = .bl true)) :
    ∃ (fd : FuncData) (sp : Sp), (∀ (s : Shared) (v : Value), BindsTo s fd ⟨[v], []⟩ [("script", v)]) ∧
      (∀ (H : Hp) (a : Addr) (ns : List Int), ns.length ≤ 63 → Only H → SqL K H a (ns.map V.int) → sp [.ref a] H (fun v _ => v = .bl true) fun _ _ _ => False) ∧
      ∀ base : Heap, K.In base → base.Ns mainGlobals mg → FnOk P wd K mg base CX0 (2 * k) f fd ["script"] sp := by
  obtain ⟨fd, hfd⟩ := hdef_of ck c
  have F := fun base => fn_ok (P := P) (wd := wd) (base := base) (G := G) (fa := adAt G.T K) (fd := fd) (K := K) (mg := mg) (fun i d hd => by
      obtain ⟨st, hs, e1, e2⟩ := hfd i d hd
      exact ⟨st, e1, e2, hb i d st hd hs⟩) (fun i d hd hc => hglo_of X Gn c hd hc) (hfree_of X Gn c) (fun cd hcd => okC_of X Gn (c.parts.2.2.1 cd hcd)) (hint_of X Gn c) (hstr_of X Gn c) k n dl hn
  have ef : adAt G.T K n = f := by
    have q := hglo_of X Gn c hn hcl
    rw [hname, hfa] at q
    exact (vref_inj q).symm
  obtain ⟨st, hs, e1, e2⟩ := hfd n dl hn
  have hbn := hb n dl st hn hs
  refine ⟨fd n, spOf (K, wd) (Cs G.T k n), ?_, fun H a ns hl hO hS => ?_, fun base _ _ => ?_⟩
  · intro s v
    have q := e1.bindsA hbn s [v] (by rw [hps]; exact Eq.refl 1)
    rw [hps] at q
    exact q
  · have S0 : Sim (K, wd) H (fun _ => none) := fun a o e => by exact absurd e (fun z => by cases z)
    have R0 : RelL (K, wd) H [V.ref a] [U.rol (ns.map U.int)] := RelL.cons (Rel.rol (rl_arg (K := (K, wd)) hO hS) (rl_ints ns)) RelL.nil
    have C0 : Cont (K, wd) H (fun _ => none) (fun u _ => u = U.bl true) (fun v _ => v = V.bl true) := fun v H2 u M2 _ _ (r : Rel (K, wd) H2 v u) (e : u = .bl true) => by
      subst e
      cases r
      rfl
    exact ⟨[U.rol (ns.map U.int)], fun _ => none, fun u _ => u = U.bl true, S0, R0, hlaw ns hl, C0⟩
  · have q := F base
    rw [ef, hps] at q
    exact q
end Pl

set_option maxHeartbeats 400000
/-! tools to work with what is asked: one step each -/
namespace Pl
open PySem L2
theorem Sub.refl (M : Hm) : Sub M M := fun _ _ h => h
theorem Sub.trans {A B C : Hm} (h : Sub A B) (g : Sub B C) : Sub A C := fun a o e => g a o (h a o e)
theorem sub_um {A B : Hm} {p : Addr} {o : MO} (h : Sub A B) (hp : A p = none) : Sub A (um B p o) := fun a o' e => by
  by_cases q : a = p
  · subst q; rw [hp] at e; cases e
  · rw [um_ne q]; exact h a o' e
theorem sub_um2 {A B : Hm} {p : Addr} {o : MO} (h : Sub A B) : Sub (um A p o) (um B p o) := fun a o' e => by
  by_cases q : a = p
  · subst q; rw [um_same] at e ⊢; exact e
  · rw [um_ne q] at e ⊢; exact h a o' e
theorem um_old {M : Hm} {p a : Addr} {o o' : MO} (hp : M p = some o') (ha : M a = none) : um M a o p = some o' := by
  rw [um_ne]
  · exact hp
  · intro e; subst e; rw [hp] at ha; cases ha
theorem um_oth {M : Hm} {p a : Addr} {o : MO} {r : Option MO} (h : p ≠ a) (hp : M p = r) : um M a o p = r := by
  rw [um_ne h]; exact hp
theorem um_none {M : Hm} {p a : Addr} {o : MO} (h : um M a o p = none) : M p = none := by
  by_cases q : p = a
  · subst q; rw [um_same] at h; cases h
  · rw [um_ne q] at h; exact h
theorem um_noneN {M : Hm} {p a : Addr} {o : MO} (h : um M a o p = none) : p ≠ a := fun q => by
  subst q; rw [um_same] at h; cases h
/-- a new thing, seen from before -/
theorem sub_new {A B : Hm} {p : Addr} {o : MO} (h : Sub A B) (hp : B p = none) : Sub A (um B p o) := fun a o' e => um_old (h a o' e) hp
theorem ne_of_old {M : Hm} {p a : Addr} {o : MO} (hp : M p = some o) (ha : M a = none) : p ≠ a := fun e => by
  subst e; rw [hp] at ha; cases ha
theorem ne_of_old' {M : Hm} {p a : Addr} {o : MO} (hp : M p = some o) (ha : M a = none) : a ≠ p := fun e => by
  subst e; rw [hp] at ha; cases ha
section
variable {C : CE} {σ : SU} {M : Hm} {Q : QU} {T : Bool → Hm → Prop} {L : List U → Hm → Prop} {I : List U → (Hm → Prop) → ((Hm → Prop) → Hm → Prop) → Hm → Prop} {a b c d es : E} {i : Nat}
/-! ifs -/
theorem i_ift {A B : Prop} {k : Bool} (h : k = true) (q : A) : if k = true then A else B := by rw [if_pos h]; exact q
theorem i_iff {A B : Prop} {k : Bool} (h : k = false) (q : B) : if k = true then A else B := by rw [if_neg (by rw [h]; decide)]; exact q
theorem i_ifn {A B : Prop} {k : Bool} (q : if k = true then B else A) : if (!k) = true then A else B := by cases k <;> exact q
theorem i_ifd {A B P : Prop} {inst : Decidable P} (h1 : P → A) (h2 : ¬P → B) : if @decide P inst = true then A else B := by
  by_cases h : P
  · exact i_ift (@decide_eq_true P inst h) (h1 h)
  · exact i_iff (@decide_eq_false P inst h) (h2 h)
theorem i_ifdt {A B P : Prop} {inst : Decidable P} (h : P) (q : A) : if @decide P inst = true then A else B := i_ift (@decide_eq_true P inst h) q
theorem i_ifdf {A B P : Prop} {inst : Decidable P} (h : ¬P) (q : B) : if @decide P inst = true then A else B := i_iff (@decide_eq_false P inst h) q
theorem i_ifb {A B : Prop} {k : Bool} (h1 : k = true → A) (h2 : k = false → B) : if k = true then A else B := by
  cases k
  · exact i_iff rfl (h2 rfl)
  · exact i_ift rfl (h1 rfl)
theorem cmul_l {i j : Int} (h : -18446744073709551616 < i) (h2 : i < 18446744073709551616) : CMul i j := .inl ⟨h, h2⟩
theorem cmul_r {i j : Int} (h : -18446744073709551616 < j) (h2 : j < 18446744073709551616) : CMul i j := .inr ⟨h, h2⟩
theorem i_le {n : Nat} {R : Prop} (h : n ≤ LIM) (q : R) : n ≤ LIM ∧ R := ⟨h, q⟩
theorem i_lt {n : Nat} {R : Prop} (h : n < LIM) (q : R) : n < LIM ∧ R := ⟨h, q⟩
/-- what several ways come to -/
structure Hold (R : Prop) : Prop where
  out : R
theorem rest_of {R G : Prop} (f : Hold R → G) (k : R) : G := f ⟨k⟩
/-! values -/
theorem i_var {u : U} (h : σ[i]? = some (some u)) (q : Q u M) : (w C (.var i)).e σ M Q := ⟨u, h, q⟩
theorem i_int {i : Int} (q : Q (.int i) M) : (w C (.int i)).e σ M Q := q
theorem i_str {i : Str} (q : Q (.str i) M) : (w C (.str i)).e σ M Q := q
theorem i_bl {i : Bool} (q : Q (.bl i) M) : (w C (.bl i)).e σ M Q := q
theorem i_non (q : Q .non M) : (w C .non).e σ M Q := q
theorem i_nil (q : L [] M) : (w C .nil).l σ M L := q
theorem i_cons (q : (w C a).e σ M fun x M1 => (w C b).l σ M1 fun xs M2 => L (x :: xs) M2) : (w C (.cons a b)).l σ M L := q
theorem i_tup (q : (w C es).l σ M fun xs M1 => xs.length ≤ LIM ∧ Q (.tup xs) M1) : (w C (.tup es)).e σ M Q := q
theorem i_dtup (q : (w C es).l σ M fun xs M1 => xs.length ≤ LIM ∧ Q (.dtp xs) M1) : (w C (.dtup es)).e σ M Q := q
theorem i_lst (q : (w C es).l σ M fun xs M1 => xs.length ≤ LIM ∧ ∀ p, M1 p = none → Q (.ref p) (um M1 p (.lst xs))) : (w C (.lst es)).e σ M Q := q
theorem i_dnew {t : Bool} (q : ∀ p, M p = none → Q (.ref p) (um M p (.dct false t []))) : (w C (.dnew t)).e σ M Q := q
theorem i_dnewN (q : ∀ p, M p = none → Q (.ref p) (um M p (.dcn []))) : (w C .dnewN).e σ M Q := q
theorem i_bin {op : Bop} (q : (w C a).e σ M fun x M1 => (w C b).e σ M1 fun y M2 => binW op x y M2 Q) : (w C (.bin op a b)).e σ M Q := q
theorem i_neg (q : (w C a).e σ M fun x M1 => ∃ i, x = .int i ∧ Q (.int (-i)) M1) : (w C (.neg a)).e σ M Q := q
theorem i_neg2 {j : Int} (q : Q (.int (-j)) M) : ∃ i, U.int j = .int i ∧ Q (.int (-i)) M := ⟨j, rfl, q⟩
theorem i_cmp {op : Cop} (q : (w C a).e σ M fun x M1 => (w C b).e σ M1 fun y M2 => cmpW op x y M2 fun k M3 => Q (.bl k) M3) : (w C (.cmp op a b)).e σ M Q := q
theorem i_chain {o p : Cop} (q : (w C a).e σ M fun x M1 => (w C b).e σ M1 fun y M2 => cmpW o x y M2 fun k M3 => if k = true then (w C c).e σ M3 fun z M4 => cmpW p y z M4 fun k M5 => Q (.bl k) M5 else Q (.bl false) M3) : (w C (.chain o p a b c)).e σ M Q := q
theorem i_isN (q : (w C a).e σ M fun x M1 => Q (.bl (decide (x = .non))) M1) : (w C (.isN a)).e σ M Q := q
theorem i_notN (q : (w C a).e σ M fun x M1 => Q (.bl (!decide (x = .non))) M1) : (w C (.notN a)).e σ M Q := q
theorem i_isB {b : Bool} (q : (w C a).e σ M fun x M1 => ∃ c, x = .bl c ∧ Q (.bl (decide (c = b))) M1) : (w C (.isB false b a)).e σ M Q := q
theorem i_isNB {b : Bool} (q : (w C a).e σ M fun x M1 => ∃ c, x = .bl c ∧ Q (.bl (!decide (c = b))) M1) : (w C (.isB true b a)).e σ M Q := q
theorem i_ands (q : (w C es).va σ M Q) : (w C (.ands es)).e σ M Q := q
theorem i_ors (q : (w C es).vo σ M Q) : (w C (.ors es)).e σ M Q := q
theorem i_not (q : (w C a).e σ M fun x M1 => truW x M1 fun b M2 => Q (.bl (!b)) M2) : (w C (.not a)).e σ M Q := q
theorem i_bW {f : WE} (q : f σ M fun x M1 => ∃ b, x = .bl b ∧ T b M1) : bW f σ M T := q
theorem i_exB {b : Bool} {R : Bool → Prop} (q : R b) : ∃ c, U.bl b = .bl c ∧ R c := ⟨b, rfl, q⟩
theorem i_exI {j : Int} {R : Int → Prop} (q : R j) : ∃ c, U.int j = .int c ∧ R c := ⟨j, rfl, q⟩
theorem i_exII {j k : Int} {R : Int → Int → Prop} (q : R j k) : ∃ a b, U.int j = .int a ∧ U.int k = .int b ∧ R a b := ⟨j, k, rfl, rfl, q⟩
theorem i_ite (q : (w C c).t σ M fun k M1 => if k = true then (w C a).e σ M1 Q else (w C b).e σ M1 Q) : (w C (.ite c a b)).e σ M Q := q
theorem i_ix (q : (w C a).e σ M fun x M1 => (w C b).e σ M1 fun y M2 => ixW x y M2 Q) : (w C (.ix a b)).e σ M Q := q
theorem i_dget (q : (w C a).e σ M fun x M1 => isDW x M1 ∧ (w C b).e σ M1 fun y M2 => (w C c).e σ M2 fun v M3 => dgetW x y v M3 Q) : (w C (.dget a b c)).e σ M Q := q
theorem i_dget1 (q : (w C a).e σ M fun x M1 => isDW x M1 ∧ (w C b).e σ M1 fun y M2 => dgetW x y .non M2 Q) : (w C (.dget1 a b)).e σ M Q := q
theorem t_dget (q : (w C a).e σ M fun x M1 => isDW x M1 ∧ (w C b).e σ M1 fun y M2 => (w C c).e σ M2 fun v M3 => dgetW x y v M3 fun u M4 => truW u M4 T) : (w C (.dget a b c)).t σ M T := q
theorem i_isD {R : Prop} {p : Addr} {z t : Bool} {ks : List (U × U)} (hp : M p = some (.dct z t ks)) (q : R) : isDW (.ref p) M ∧ R := ⟨⟨p, z, t, ks, rfl, hp⟩, q⟩
theorem d_get {p : Addr} {z t : Bool} {ks : List (U × U)} {x v : U} (hp : M p = some (.dct z t ks)) (hk : keyFor t x = true) (q : Q ((dfind ks x).getD v) M) : dgetW (.ref p) x v M Q := ⟨p, z, t, ks, rfl, hp, hk, q⟩
theorem i_slice (q : (w C a).e σ M fun x M1 => partW b (w C b).e σ M1 fun l M2 => partW c (w C c).e σ M2 fun h M3 => sliceW x l h M3 Q) : (w C (.slice a b c)).e σ M Q := q
theorem i_part0 {f : WE} {O : Option Int → Hm → Prop} (q : O none M) : partW .nil f σ M O := q
theorem i_part1 {f : WE} {O : Option Int → Hm → Prop} (h : isNil a = false) (q : f σ M fun x M1 => ∃ i, x = .int i ∧ O (some i) M1) : partW a f σ M O := by
  unfold partW
  rw [if_neg (by rw [h]; decide)]
  exact q
theorem i_call {f : Nat} (q : (w C es).l σ M fun xs M1 => C f xs M1 Q) : (w C (.call f es)).e σ M Q := q
theorem i_blt {f : Bfn} (q : (w C es).l σ M fun xs M1 => bltW f xs M1 Q) : (w C (.blt f es)).e σ M Q := q
theorem i_mth {m : Mfn} (q : (w C a).e σ M fun x M1 => rcvW m x M1 ∧ (w C es).l σ M1 fun xs M2 => mthW m x xs M2 Q) : (w C (.mth m a es)).e σ M Q := q
theorem i_isinst {t : String} (q : (w C a).e σ M fun x M1 => isTyW x t M1 fun k M2 => Q (.bl k) M2) : (w C (.isinst a t)).e σ M Q := q
theorem i_compN {own : List (Str × Nat)} {tg : Tg} (q : (w C a).i σ M fun items g ex M1 => compL (fun x k M => tgW tg x (wipU σ tg.slots) fun σ2 => (w C c).e σ2 M fun y M3 => k (some y) M3) g (fun acc M => ex (fun M => ∀ p, M p = none → Q (.ref p) (um M p (.lst acc))) M) items [] M1) : (w C (.comp own tg a .nil c)).e σ M Q := by
  show compW _ _ _ _ _ _ _
  unfold compW
  simp only [isNil, if_true]
  exact q
theorem i_compC {own : List (Str × Nat)} {tg : Tg} (h : isNil b = false) (q : (w C a).i σ M fun items g ex M1 => compL (fun x k M => tgW tg x (wipU σ tg.slots) fun σ2 => (w C b).t σ2 M fun e M2 => if e = true then (w C c).e σ2 M2 fun y M3 => k (some y) M3 else k none M2) g (fun acc M => ex (fun M => ∀ p, M p = none → Q (.ref p) (um M p (.lst acc))) M) items [] M1) : (w C (.comp own tg a b c)).e σ M Q := by
  show compW _ _ _ _ _ _ _
  unfold compW
  simp only [h, Bool.false_eq_true, if_false]
  exact q
theorem i_dcomp0 {k v : E} {own : List (Str × Nat)} {tg : Tg} (q : (w C a).i σ M fun items g ex M1 => ∀ p, M1 p = none → g (um M1 p (.dcn [])) ∧ dcompL (fun x kk M => tgW tg x (wipU σ tg.slots) fun σ2 => (w C k).e σ2 M fun y M3 => (w C v).e σ2 M3 fun z M4 => dsetN p y z M4 kk) g (fun M => ex (fun M => Q (.ref p) M) M) items (um M1 p (.dcn []))) : (w C (.dcompN own tg a .nil k v)).e σ M Q := by
  show dcompW _ _ _ _ _ _ _ _
  unfold dcompW
  simp only [isNil, if_true]
  exact q
/-! tests -/
theorem t_var {u : U} (h : σ[i]? = some (some u)) (q : truW u M T) : (w C (.var i)).t σ M T := ⟨u, h, q⟩
theorem t_bl {i : Bool} (q : T i M) : (w C (.bl i)).t σ M T := q
theorem t_bin {op : Bop} (q : (w C a).e σ M fun x M1 => (w C b).e σ M1 fun y M2 => binW op x y M2 fun z M3 => truW z M3 T) : (w C (.bin op a b)).t σ M T := q
theorem t_ix (q : (w C a).e σ M fun x M1 => (w C b).e σ M1 fun y M2 => ixW x y M2 fun z M3 => truW z M3 T) : (w C (.ix a b)).t σ M T := q
theorem t_call {f : Nat} (q : (w C es).l σ M fun xs M1 => C f xs M1 fun z M2 => truW z M2 T) : (w C (.call f es)).t σ M T := q
theorem t_blt {f : Bfn} (q : (w C es).l σ M fun xs M1 => bltW f xs M1 fun z M2 => truW z M2 T) : (w C (.blt f es)).t σ M T := q
theorem t_cmp {op : Cop} (q : (w C a).e σ M fun x M1 => (w C b).e σ M1 fun y M2 => cmpW op x y M2 T) : (w C (.cmp op a b)).t σ M T := q
theorem t_chain {o p : Cop} (q : (w C a).e σ M fun x M1 => (w C b).e σ M1 fun y M2 => cmpW o x y M2 fun k M3 => if k = true then (w C c).e σ M3 fun z M4 => cmpW p y z M4 T else T false M3) : (w C (.chain o p a b c)).t σ M T := q
theorem t_isN (q : (w C a).e σ M fun x M1 => T (decide (x = .non)) M1) : (w C (.isN a)).t σ M T := q
theorem t_notN (q : (w C a).e σ M fun x M1 => T (!decide (x = .non)) M1) : (w C (.notN a)).t σ M T := q
theorem t_isB {b : Bool} (q : (w C a).e σ M fun x M1 => ∃ c, x = .bl c ∧ T (decide (c = b)) M1) : (w C (.isB false b a)).t σ M T := q
theorem t_isNB {b : Bool} (q : (w C a).e σ M fun x M1 => ∃ c, x = .bl c ∧ T (!decide (c = b)) M1) : (w C (.isB true b a)).t σ M T := q
theorem t_ands (q : (w C es).ta σ M T) : (w C (.ands es)).t σ M T := q
theorem t_ors (q : (w C es).to σ M T) : (w C (.ors es)).t σ M T := q
theorem t_not (q : (w C a).t σ M fun b M1 => T (!b) M1) : (w C (.not a)).t σ M T := q
theorem t_isinst {t : String} (q : (w C a).e σ M fun x M1 => isTyW x t M1 T) : (w C (.isinst a t)).t σ M T := q
theorem ta_1 (q : (w C a).t σ M T) : (w C (.cons a .nil)).ta σ M T := q
theorem ta_2 (q : (w C a).t σ M fun c M1 => if c = true then (w C (.cons b d)).ta σ M1 T else T false M1) : (w C (.cons a (.cons b d))).ta σ M T := q
theorem to_1 (q : (w C a).t σ M T) : (w C (.cons a .nil)).to σ M T := q
theorem to_2 (q : (w C a).t σ M fun c M1 => if c = true then T true M1 else (w C (.cons b d)).to σ M1 T) : (w C (.cons a (.cons b d))).to σ M T := q
theorem va_1 (q : (w C a).e σ M Q) : (w C (.cons a .nil)).va σ M Q := q
theorem va_2 (q : (w C a).e σ M fun x M1 => ∃ k, x = .bl k ∧ if k = true then (w C (.cons b d)).va σ M1 Q else Q (.bl false) M1) : (w C (.cons a (.cons b d))).va σ M Q := q
theorem vo_1 (q : (w C a).e σ M Q) : (w C (.cons a .nil)).vo σ M Q := q
theorem vo_2 (q : (w C a).e σ M fun x M1 => ∃ k, x = .bl k ∧ if k = true then Q (.bl true) M1 else (w C (.cons b d)).vo σ M1 Q) : (w C (.cons a (.cons b d))).vo σ M Q := q
/-! operations -/
theorem o_add {i j : Int} (q : Q (.int (i + j)) M) : binW .add (.int i) (.int j) M Q := q
theorem o_sub {i j : Int} (q : Q (.int (i - j)) M) : binW .sub (.int i) (.int j) M Q := q
theorem o_mul {i j : Int} (h : CMul i j) (q : Q (.int (i * j)) M) : binW .mul (.int i) (.int j) M Q := ⟨h, q⟩
theorem o_fdiv {i j : Int} (h : CDiv i j) (q : Q (.int (i / j)) M) : binW .fdiv (.int i) (.int j) M Q := ⟨h, q⟩
theorem o_mod {i j : Int} (h : 0 < j) (q : Q (.int (i % j)) M) : binW .mod (.int i) (.int j) M Q := ⟨h, q⟩
theorem o_pow {i j : Int} (h : CPow i j) (q : Q (.int (i ^ j.toNat)) M) : binW .pow (.int i) (.int j) M Q := ⟨h, q⟩
theorem o_shl {i j : Int} (h : CPow i j) (q : Q (.int (i * 2 ^ j.toNat)) M) : binW .shl (.int i) (.int j) M Q := ⟨h, q⟩
theorem o_addS {x y : Str} (h : x.length + y.length ≤ LIM) (q : Q (.str (x ++ y)) M) : binW .add (.str x) (.str y) M Q := ⟨h, q⟩
theorem o_addT {x y : List U} (h : x.length + y.length ≤ LIM) (q : Q (.tup (x ++ y)) M) : binW .add (.tup x) (.tup y) M Q := ⟨h, q⟩
theorem o_addL {p r : Addr} {us ws : List U} (hp : M p = some (.lst us)) (hr : M r = some (.lst ws)) (h : us.length + ws.length ≤ LIM) (q : ∀ a, M a = none → Q (.ref a) (um M a (.lst (us ++ ws)))) : binW .add (.ref p) (.ref r) M Q := ⟨us, ws, hp, hr, h, q⟩
theorem c_eq {x y : U} (q : eqW x y M T) : cmpW .eq x y M T := q
theorem c_ne {x y : U} (q : eqW x y M fun b M => T (!b) M) : cmpW .ne x y M T := q
theorem c_lt {i j : Int} (q : T (decide (i < j)) M) : cmpW .lt (.int i) (.int j) M T := q
theorem c_le {i j : Int} (q : T (decide (i ≤ j)) M) : cmpW .le (.int i) (.int j) M T := q
theorem c_gt {i j : Int} (q : T (decide (j < i)) M) : cmpW .gt (.int i) (.int j) M T := q
theorem c_ge {i j : Int} (q : T (decide (j ≤ i)) M) : cmpW .ge (.int i) (.int j) M T := q
theorem c_in {x y : U} (q : inW false x y M T) : cmpW .isin x y M T := q
theorem c_nin {x y : U} (q : inW true x y M T) : cmpW .notin x y M T := q
theorem eq_bl {a b : Bool} (q : T (decide (a = b)) M) : eqW (.bl a) (.bl b) M T := by
  have e : (a == b) = decide (a = b) := by cases a <;> cases b <;> rfl
  show T (a == b) M
  rw [e]; exact q
theorem eq_int {a b : Int} (q : T (decide (a = b)) M) : eqW (.int a) (.int b) M T := q
theorem eq_str {a b : Str} (q : T (decide (a = b)) M) : eqW (.str a) (.str b) M T := q
theorem eq_tup {a b : List U} (ha : okU (.tup a) = true) (hb : okU (.tup b) = true) (q : T (decide (U.tup a = U.tup b)) M) : eqW (.tup a) (.tup b) M T := ⟨ha, hb, q⟩
theorem eq_lst {p r : Addr} {us ws : List U} (hp : M p = some (.lst us)) (hr : M r = some (.lst ws)) (h1 : okL us = true) (h2 : okL ws = true) (q : T (decide (us = ws)) M) : eqW (.ref p) (.ref r) M T := ⟨us, ws, hp, hr, h1, h2, q⟩
theorem in_lst {x : U} {p : Addr} {us : List U} (hp : M p = some (.lst us)) (h1 : okU x = true) (h2 : okL us = true) (q : T (decide (x ∈ us)) M) : inW false x (.ref p) M T := .inl ⟨us, hp, h1, h2, q⟩
theorem nin_lst {x : U} {p : Addr} {us : List U} (hp : M p = some (.lst us)) (h1 : okU x = true) (h2 : okL us = true) (q : T (!decide (x ∈ us)) M) : inW true x (.ref p) M T := .inl ⟨us, hp, h1, h2, q⟩
theorem in_tup {x : U} {us : List U} (h1 : okU x = true) (h2 : okL us = true) (h3 : us.all isKey = true) (h4 : isKey x = true) (q : T (decide (x ∈ us)) M) : inW false x (.tup us) M T := ⟨h1, h2, ⟨h3, h4⟩, q⟩
theorem nin_tup {x : U} {us : List U} (h1 : okU x = true) (h2 : okL us = true) (h3 : us.all isKey = true) (h4 : isKey x = true) (q : T (!decide (x ∈ us)) M) : inW true x (.tup us) M T := ⟨h1, h2, ⟨h3, h4⟩, q⟩
theorem in_dct {z t : Bool} {x : U} {p : Addr} {ks : List (U × U)} (hp : M p = some (.dct z t ks)) (h1 : keyFor t x = true) (q : T (dfind ks x).isSome M) : inW false x (.ref p) M T := .inr (.inl ⟨z, t, ks, hp, h1, q⟩)
theorem in_dcn {x : U} {p : Addr} {ks : List (U × U)} (hp : M p = some (.dcn ks)) (h1 : isKeyN x = true) (q : T (dfind ks x).isSome M) : inW false x (.ref p) M T := .inr (.inr ⟨ks, hp, h1, q⟩)
theorem nin_dcn {x : U} {p : Addr} {ks : List (U × U)} (hp : M p = some (.dcn ks)) (h1 : isKeyN x = true) (q : T (!(dfind ks x).isSome) M) : inW true x (.ref p) M T := .inr (.inr ⟨ks, hp, h1, q⟩)
theorem nin_dct {z t : Bool} {x : U} {p : Addr} {ks : List (U × U)} (hp : M p = some (.dct z t ks)) (h1 : keyFor t x = true) (q : T (!(dfind ks x).isSome) M) : inW true x (.ref p) M T := .inr (.inl ⟨z, t, ks, hp, h1, q⟩)
theorem tr_bl {b : Bool} (q : T b M) : truW (.bl b) M T := q
theorem tr_int {i : Int} (q : T (!decide (i = 0)) M) : truW (.int i) M T := by
  have e : (i != 0) = !decide (i = 0) := rfl
  show T (i != 0) M
  rw [e]; exact q
theorem emp_dec {α : Type} (l : List α) [Decidable (l = [])] : l.isEmpty = decide (l = []) := by cases l <;> simp
theorem tr_tup {l : List U} (q : T (!decide (l = [])) M) : truW (.tup l) M T := by
  show T (!l.isEmpty) M
  rw [emp_dec]; exact q
theorem tr_non (q : T false M) : truW .non M T := q
theorem tr_lst {p : Addr} {us : List U} (hp : M p = some (.lst us)) (q : T (!decide (us = [])) M) : truW (.ref p) M T := .inl ⟨us, hp, by rw [emp_dec]; exact q⟩
theorem tr_dct {p : Addr} {ks : List (U × U)} (hp : M p = some (.dct false false ks)) (q : T (!decide (ks = [])) M) : truW (.ref p) M T := .inr ⟨ks, hp, by rw [emp_dec]; exact q⟩
theorem x_tup {l : List U} {j : Int} {v : U} (h : atI l j = some v) (q : Q v M) : ixW (.tup l) (.int j) M Q := ⟨j, v, rfl, h, q⟩
theorem x_lst {p : Addr} {us : List U} {j : Int} {v : U} (hp : M p = some (.lst us)) (h : atI us j = some v) (q : Q v M) : ixW (.ref p) (.int j) M Q := .inl ⟨us, j, v, hp, rfl, h, q⟩
theorem x_dct {p : Addr} {z t : Bool} {ks : List (U × U)} {x v : U} (hp : M p = some (.dct z t ks)) (hk : keyFor t x = true) (h : dfind ks x = some v) (q : Q v M) : ixW (.ref p) x M Q := .inr (.inl ⟨z, t, ks, v, hp, hk, h, q⟩)
theorem x_dcn {p : Addr} {ks : List (U × U)} {x v : U} (hp : M p = some (.dcn ks)) (hk : isKeyN x = true) (h : dfind ks x = some v) (q : Q v M) : ixW (.ref p) x M Q := .inr (.inr ⟨ks, v, hp, hk, h, q⟩)
theorem g_lst {p : Addr} {us : List U} {j : Int} {v : U} (hp : M p = some (.lst us)) (h : atI us j = some v) (q : Q v M) : getW (.ref p) (.int j) M Q := .inl ⟨us, j, v, hp, rfl, h, q⟩
theorem g_dct {p : Addr} {z t : Bool} {ks : List (U × U)} {x v : U} (hp : M p = some (.dct z t ks)) (hk : keyFor t x = true) (h : dfind ks x = some v) (q : Q v M) : getW (.ref p) x M Q := .inr ⟨z, t, ks, v, hp, hk, h, q⟩
theorem sl_tup {l : List U} {x y : Option Int} (q : Q (.tup (cutU l x y)) M) : sliceW (.tup l) x y M Q := q
theorem sl_lst {p : Addr} {us : List U} {x y : Option Int} (hp : M p = some (.lst us)) (q : ∀ a, M a = none → Q (.ref a) (um M a (.lst (cutU us x y)))) : sliceW (.ref p) x y M Q := ⟨us, hp, q⟩
theorem st_lst {p : Addr} {us : List U} {j : Int} {k : Nat} {v : U} {R : Hm → Prop} (hp : M p = some (.lst us)) (h : ixN us.length j = some k) (q : R (um M p (.lst (us.set k v)))) : setW (.ref p) (.int j) v M R := .inl ⟨us, j, k, hp, rfl, h, q⟩
theorem st_dct {p : Addr} {t : Bool} {ks : List (U × U)} {x v : U} {R : Hm → Prop} (hp : M p = some (.dct false t ks)) (hk : keyFor t x = true) (hl : ks.length < LIM) (q : R (um M p (.dct false t (dput ks x v)))) : setW (.ref p) x v M R := .inr (.inl ⟨t, ks, hp, hk, hl, q⟩)
theorem st_dcn {p : Addr} {ks : List (U × U)} {x v : U} {R : Hm → Prop} (hp : M p = some (.dcn ks)) (hk : isKeyN x = true) (hl : ks.length < LIM) (q : R (um M p (.dcn (dput ks x v)))) : setW (.ref p) x v M R := .inr (.inr ⟨ks, hp, hk, hl, q⟩)
theorem f_lenT {l : List U} (q : Q (.int l.length) M) : bltW .len [.tup l] M Q := q
theorem f_lenL {p : Addr} {us : List U} (hp : M p = some (.lst us)) (q : Q (.int us.length) M) : bltW .len [.ref p] M Q := .inl ⟨us, hp, q⟩
theorem f_lenD {p : Addr} {ks : List (U × U)} (hp : M p = some (.dct false false ks)) (q : Q (.int ks.length) M) : bltW .len [.ref p] M Q := .inr ⟨ks, hp, q⟩
theorem f_listT {l : List U} (q : ∀ a, M a = none → Q (.ref a) (um M a (.lst l))) : bltW .list [.tup l] M Q := q
theorem f_listL {p : Addr} {us : List U} (hp : M p = some (.lst us)) (q : ∀ a, M a = none → Q (.ref a) (um M a (.lst us))) : bltW .list [.ref p] M Q := .inl ⟨us, hp, q⟩
theorem f_listD {p : Addr} {ks : List (U × U)} (hp : M p = some (.dct false false ks)) (q : ∀ a, M a = none → Q (.ref a) (um M a (.lst (ks.map (·.1))))) : bltW .list [.ref p] M Q := .inr (.inl ⟨ks, hp, q⟩)
theorem f_listN {p : Addr} {ks : List (U × U)} (hp : M p = some (.dcn ks)) (q : ∀ a, M a = none → Q (.ref a) (um M a (.lst (ks.map (·.1))))) : bltW .list [.ref p] M Q := .inr (.inr ⟨ks, hp, q⟩)
theorem f_sortL {p : Addr} {us : List U} (hp : M p = some (.lst us)) (ok : sortOk us) (q : ∀ a, M a = none → Q (.ref a) (um M a (.lst (sortU us)))) : bltW .sorted [.ref p] M Q := .inl ⟨us, hp, ok, q⟩
theorem f_sortD {p : Addr} {t : Bool} {ks : List (U × U)} (hp : M p = some (.dct false t ks)) (ok : sortOk (ks.map (·.1))) (q : ∀ a, M a = none → Q (.ref a) (um M a (.lst (sortU (ks.map (·.1)))))) : bltW .sorted [.ref p] M Q := .inr (.inl ⟨t, ks, hp, ok, q⟩)
theorem f_sortN {p : Addr} {ks : List (U × U)} (hp : M p = some (.dcn ks)) (ok : sortOk (ks.map (·.1))) (q : ∀ a, M a = none → Q (.ref a) (um M a (.lst (sortU (ks.map (·.1)))))) : bltW .sorted [.ref p] M Q := .inr (.inr ⟨ks, hp, ok, q⟩)
theorem f_tupT {l : List U} (q : Q (.tup l) M) : bltW .tuple [.tup l] M Q := q
theorem f_tupL {p : Addr} {us : List U} (hp : M p = some (.lst us)) (q : Q (.tup us) M) : bltW .tuple [.ref p] M Q := ⟨us, hp, q⟩
theorem f_int {i : Int} (q : Q (.int i) M) : bltW .int [.int i] M Q := q
theorem f_intB {b : Bool} (q : Q (.int (if b then 1 else 0)) M) : bltW .int [.bl b] M Q := q
theorem f_abs {i : Int} (q : Q (.int (if i < 0 then -i else i)) M) : bltW .abs [.int i] M Q := q
theorem f_max {i j : Int} (q : Q (.int (if j > i then j else i)) M) : bltW .max [.int i, .int j] M Q := q
theorem f_min {i j : Int} (q : Q (.int (if j < i then j else i)) M) : bltW .min [.int i, .int j] M Q := q
theorem m_app {p : Addr} {us : List U} {x : U} (hp : M p = some (.lst us)) (hl : us.length < LIM) (q : Q .non (um M p (.lst (us ++ [x])))) : mthW .append (.ref p) [x] M Q := ⟨us, hp, hl, q⟩
theorem m_ext {p r : Addr} {us ws : List U} (hp : M p = some (.lst us)) (hr : M r = some (.lst ws)) (hl : us.length + ws.length ≤ LIM) (q : Q .non (um M p (.lst (us ++ ws)))) : mthW .extend (.ref p) [.ref r] M Q := ⟨us, ws, hp, hr, hl, q⟩
theorem m_extT {p : Addr} {us l : List U} (hp : M p = some (.lst us)) (hl : us.length + l.length ≤ LIM) (q : Q .non (um M p (.lst (us ++ l)))) : mthW .extend (.ref p) [.dtp l] M Q := ⟨us, hp, hl, q⟩
theorem m_pop21 {p : Addr} {ks : List (U × U)} {l : List U} {v : U} (hp : M p = some (.dct false true ks)) (hk : isKeyT (.tup l) = true) (h : dfind ks (.tup l) = some v) (q : Q v (um M p (.dct false true (ddrop ks (.tup l))))) : mthW .pop2 (.ref p) [.tup l] M Q := ⟨ks, v, hp, hk, h, q⟩
theorem m_pop2n {p : Addr} {ks : List (U × U)} {l : List U} {d : U} (hp : M p = some (.dct false true ks)) (hk : isKeyT (.tup l) = true) (h : dfind ks (.tup l) = none) (q : Q d M) : mthW .pop2 (.ref p) [.tup l, d] M Q := ⟨ks, hp, hk, by rw [h]; exact q⟩
theorem m_pop2s {p : Addr} {ks : List (U × U)} {l : List U} {d v : U} (hp : M p = some (.dct false true ks)) (hk : isKeyT (.tup l) = true) (h : dfind ks (.tup l) = some v) (q : Q v (um M p (.dct false true (ddrop ks (.tup l))))) : mthW .pop2 (.ref p) [.tup l, d] M Q := ⟨ks, hp, hk, by rw [h]; exact q⟩
theorem i_rcvR {R : Prop} {p : Addr} {ks : List (U × U)} (hp : M p = some (.dct false true ks)) (q : R) : rcvW .pop2 (.ref p) M ∧ R := ⟨⟨p, ks, rfl, hp⟩, q⟩
theorem m_pop {p : Addr} {us : List U} {x : U} (hp : M p = some (.lst us)) (hl : us[us.length - 1]? = some x) (q : Q x (um M p (.lst us.dropLast))) : mthW .pop (.ref p) [] M Q := ⟨us, x, hp, hl, q⟩
theorem m_popAt {p : Addr} {us : List U} {i : Int} {k : Nat} {x : U} (hp : M p = some (.lst us)) (hl : us.length ≤ LIM) (hi : ixN us.length i = some k) (hk : us[k]? = some x) (q : Q x (um M p (.lst (us.eraseIdx k)))) : mthW .popAt (.ref p) [.int i] M Q := ⟨us, k, x, hp, hl, hi, hk, q⟩
theorem m_index {p : Addr} {us : List U} {x : U} {j : Nat} (hp : M p = some (.lst us)) (h1 : okU x = true) (h2 : okL us = true) (h3 : us[j]? = some x) (h4 : ∀ m, m < j → us[m]? ≠ some x) (q : Q (.int (j : Nat)) M) : mthW .index (.ref p) [x] M Q := ⟨us, j, hp, h1, h2, h3, h4, q⟩
theorem i_rcvX {R : Prop} {p : Addr} {us : List U} (hp : M p = some (.lst us)) (q : R) : rcvW .index (.ref p) M ∧ R := ⟨⟨p, us, rfl, hp⟩, q⟩
theorem r_app {p : Addr} {us : List U} (hp : M p = some (.lst us)) : rcvW .append (.ref p) M := ⟨p, us, rfl, hp⟩
theorem r_ext {p : Addr} {us : List U} (hp : M p = some (.lst us)) : rcvW .extend (.ref p) M := ⟨p, us, rfl, hp⟩
theorem r_pop {p : Addr} {us : List U} (hp : M p = some (.lst us)) : rcvW .pop (.ref p) M := ⟨p, us, rfl, hp⟩
theorem r_popAt {p : Addr} {us : List U} (hp : M p = some (.lst us)) : rcvW .popAt (.ref p) M := ⟨p, us, rfl, hp⟩
theorem i_rcvA {R : Prop} {p : Addr} {us : List U} (hp : M p = some (.lst us)) (q : R) : rcvW .append (.ref p) M ∧ R := ⟨r_app hp, q⟩
theorem i_rcvE {R : Prop} {p : Addr} {us : List U} (hp : M p = some (.lst us)) (q : R) : rcvW .extend (.ref p) M ∧ R := ⟨r_ext hp, q⟩
theorem i_rcvP {R : Prop} {p : Addr} {us : List U} (hp : M p = some (.lst us)) (q : R) : rcvW .pop (.ref p) M ∧ R := ⟨r_pop hp, q⟩
theorem i_rcvQ {R : Prop} {p : Addr} {us : List U} (hp : M p = some (.lst us)) (q : R) : rcvW .popAt (.ref p) M ∧ R := ⟨r_popAt hp, q⟩
theorem y_non {t : String} (q : T (t == "NoneType") M) : isTyW .non t M T := q
theorem y_bl {t : String} {b : Bool} (q : T (t == "bool" || t == "int") M) : isTyW (.bl b) t M T := q
theorem y_int {t : String} {i : Int} (q : T (t == "int") M) : isTyW (.int i) t M T := q
theorem y_str {t : String} {x : Str} (q : T (t == "str") M) : isTyW (.str x) t M T := q
theorem y_tup {t : String} {l : List U} (q : T (t == "tuple") M) : isTyW (.tup l) t M T := q
theorem y_lst {t : String} {p : Addr} {us : List U} (hp : M p = some (.lst us)) (q : T (t == "list") M) : isTyW (.ref p) t M T := ⟨us, hp, q⟩
/-! what is walked -/
theorem w_seq (q : (w C a).e σ M fun x M1 => seqI x M1 I) : (w C (.iSeq a)).i σ M I := q
theorem w_rng (q : (w C a).e σ M fun x M1 => ∃ n, x = .int n ∧ n ≤ LIM ∧ -LIM ≤ n ∧ I (rngU 0 n) (fun _ => True) (fun P => P) M1) : (w C (.iRange a)).i σ M I := q
theorem w_rng2 (q : (w C a).e σ M fun x M1 => (w C b).e σ M1 fun y M2 => ∃ m n, x = .int m ∧ y = .int n ∧ -LIM ≤ m ∧ m ≤ LIM ∧ n ≤ LIM ∧ -LIM ≤ n ∧ I (rngU m n) (fun _ => True) (fun P => P) M2) : (w C (.iRange2 a b)).i σ M I := q
theorem w_enum (q : (w C a).e σ M fun x M1 => seqI x M1 fun us g ex M2 => I (enumU us) g ex M2) : (w C (.iEnum a)).i σ M I := q
theorem w_rev (q : (w C a).e σ M fun x M1 => revI x M1 I) : (w C (.iRev a)).i σ M I := q
theorem r_tup {l : List U} (q : I l.reverse (fun _ => True) (fun P => P) M) : revI (.tup l) M I := q
theorem r_dtp {l : List U} (q : I l.reverse (fun _ => True) (fun P => P) M) : revI (.dtp l) M I := q
theorem r_lst {p : Addr} {us : List U} (hp : M p = some (.lst us)) (q : I us.reverse (fun M' => M' p = some (.lst us)) (fun P => P) M) : revI (.ref p) M I := ⟨us, hp, q⟩
theorem s_tup {l : List U} (q : I l (fun _ => True) (fun P => P) M) : seqI (.tup l) M I := q
theorem s_rol {l : List U} (q : I l (fun _ => True) (fun P => P) M) : seqI (.rol l) M I := q
theorem s_lst {p : Addr} {us : List U} (hp : M p = some (.lst us)) (q : I us (fun M' => M' p = some (.lst us)) (fun P => P) M) : seqI (.ref p) M I := ⟨us, hp, q⟩
theorem w_keys {d : Addr} {t : Bool} {ks : List (U × U)} (h : σ[i]? = some (some (.ref d))) (hd : M d = some (.dct false t ks)) (q : I (ks.map (·.1)) (fun M' => M' d = some (.dct true t ks)) (fun P M' => M' d = some (.dct true t ks) ∧ P (um M' d (.dct false t ks))) (um M d (.dct true t ks))) : (w C (.iKeys (.var i))).i σ M I := ⟨i, d, t, ks, rfl, h, hd, q⟩
/-! statements -/
variable {nx : SU → Hm → Prop} {rt : QU} {bk ct : SU → Hm → Prop} {x y z : S}
theorem z_skip (q : nx σ M) : wS C .skip ⟨nx, rt, bk, ct⟩ σ M := q
theorem z_seq (q : wS C x ⟨wS C y ⟨nx, rt, bk, ct⟩, rt, bk, ct⟩ σ M) : wS C (.seq x y) ⟨nx, rt, bk, ct⟩ σ M := q
theorem z_asg (q : (w C a).e σ M fun x M1 => nx (σ.set i (some x)) M1) : wS C (.asg i a) ⟨nx, rt, bk, ct⟩ σ M := q
theorem z_asgT {is : List Nat} (q : (w C a).e σ M fun x M1 => ∃ l σ', x = .tup l ∧ setAll is l σ = some σ' ∧ nx σ' M1) : wS C (.asgT is a) ⟨nx, rt, bk, ct⟩ σ M := q
theorem z_asgT2 {is : List Nat} {l : List U} {σ' : SU} (h : setAll is l σ = some σ') (q : nx σ' M) : ∃ l' σ', U.tup l = .tup l' ∧ setAll is l' σ = some σ' ∧ nx σ' M := ⟨l, σ', rfl, h, q⟩
theorem z_asgU {is : List Nat} (q : (w C a).e σ M fun x M1 => ∃ p l σ', x = .ref p ∧ M1 p = some (.lst l) ∧ setAll is l σ = some σ' ∧ nx σ' M1) : wS C (.asgU is a) ⟨nx, rt, bk, ct⟩ σ M := q
theorem z_asgU2 {is : List Nat} {p : Addr} {l : List U} {σ' : SU} (hp : M p = some (.lst l)) (h : setAll is l σ = some σ') (q : nx σ' M) : ∃ p' l' σ', U.ref p = .ref p' ∧ M p' = some (.lst l') ∧ setAll is l' σ = some σ' ∧ nx σ' M := ⟨p, l, σ', rfl, hp, h, q⟩
theorem z_setIx (q : (w C c).e σ M fun v M1 => (w C a).e σ M1 fun x M2 => (w C b).e σ M2 fun y M3 => setW x y v M3 (nx σ)) : wS C (.setIx a b c) ⟨nx, rt, bk, ct⟩ σ M := q
theorem z_augV {op : Bop} {x : Int} (h : σ[i]? = some (some (.int x))) (q : (w C a).e σ M fun y M1 => ∃ b, y = .int b ∧ binW op (.int x) (.int b) M1 fun z M2 => nx (σ.set i (some z)) M2) : wS C (.augV i op a) ⟨nx, rt, bk, ct⟩ σ M := ⟨_, h, by
  have e : ∀ y M1, (∃ b, y = .int b ∧ binW op (.int x) (.int b) M1 fun z M2 => nx (σ.set i (some z)) M2) = (∃ a b, U.int x = .int a ∧ y = .int b ∧ binW op (.int x) y M1 fun z M2 => nx (σ.set i (some z)) M2) := fun y M1 => propext ⟨fun ⟨b, e, q⟩ => ⟨x, b, rfl, e, by rw [e]; exact q⟩, fun ⟨a, b, _, e, q⟩ => ⟨b, e, by rw [e] at q; exact q⟩⟩
  simp only [e] at q
  exact q⟩
theorem z_augIx {op : Bop} (q : (w C a).e σ M fun x M1 => (w C b).e σ M1 fun y M2 => getW x y M2 fun v M3 => (w C c).e σ M3 fun z M4 => ∃ a b, v = .int a ∧ z = .int b ∧ binW op v z M4 fun r M5 => setW x y r M5 (nx σ)) : wS C (.augIx a b op c) ⟨nx, rt, bk, ct⟩ σ M := q
theorem z_ifs (q : (w C c).t σ M fun k M1 => if k = true then wS C x ⟨nx, rt, bk, ct⟩ σ M1 else wS C y ⟨nx, rt, bk, ct⟩ σ M1) : wS C (.ifs c x y) ⟨nx, rt, bk, ct⟩ σ M := q
theorem z_for {tg : Tg} (q : (w C a).i σ M fun items g ex M1 => forL (fun u k σ M => tgW tg u σ fun σ2 => wS C x ⟨k, fun u M => ex (rt u) M, fun σ M => ex (nx σ) M, k⟩ σ2 M) g (fun σ M => ex (nx σ) M) items σ M1) : wS C (.for_ tg a x) ⟨nx, rt, bk, ct⟩ σ M := q
theorem z_ret (q : (w C a).e σ M rt) : wS C (.ret a) ⟨nx, rt, bk, ct⟩ σ M := q
theorem z_retN (q : rt .non M) : wS C .retN ⟨nx, rt, bk, ct⟩ σ M := q
theorem z_brk (q : bk σ M) : wS C .brk ⟨nx, rt, bk, ct⟩ σ M := q
theorem z_cnt (q : ct σ M) : wS C .cnt ⟨nx, rt, bk, ct⟩ σ M := q
theorem z_expr (q : (w C a).e σ M fun _ M1 => nx σ M1) : wS C (.expr a) ⟨nx, rt, bk, ct⟩ σ M := q
theorem tg_one {u : U} {R : SU → Prop} (q : R (σ.set i (some u))) : tgW (.one i) u σ R := q
theorem tg_many {is : List Nat} {l : List U} {σ' : SU} {R : SU → Prop} (h : setAll is l σ = some σ') (q : R σ') : tgW (.many is) (.tup l) σ R := ⟨l, σ', rfl, h, q⟩
end
/-- a loop by what holds between: what is done, what is left -/
theorem forL_by {α : Type} {enc : α → U} {step : U → (SU → Hm → Prop) → SU → Hm → Prop} {g : Hm → Prop} {fin : SU → Hm → Prop} (I : List α → List α → SU → Hm → Prop) (l : List α) {σ : SU} {M : Hm} (h0 : I [] l σ M)
    (h1 : ∀ don x rest σ M (k : SU → Hm → Prop), don ++ x :: rest = l → I don (x :: rest) σ M → (∀ σ' M', g M' → I (don ++ [x]) rest σ' M' → k σ' M') → step (enc x) k σ M)
    (h2 : ∀ σ M, I l [] σ M → fin σ M) : forL step g fin (l.map enc) σ M := by
  suffices h : ∀ (rest don : List α) σ M, don ++ rest = l → I don rest σ M → forL step g fin (rest.map enc) σ M from h l [] σ M rfl h0
  intro rest
  induction rest with
  | nil =>
    intro don σ M e h
    rw [List.append_nil] at e
    subst e
    exact h2 σ M h
  | cons x rest ih =>
    intro don σ M e h
    exact h1 don x rest σ M _ e h fun σ' M' hg hi => ⟨hg, ih (don ++ [x]) σ' M' (by rw [List.append_assoc]; exact e) hi⟩
/-- a loop by enumerate -/
theorem forL_enum {α : Type} {enc : α → U} {step : U → (SU → Hm → Prop) → SU → Hm → Prop} {g : Hm → Prop} {fin : SU → Hm → Prop} (I : List α → List α → SU → Hm → Prop) (l : List α) {σ : SU} {M : Hm} (h0 : I [] l σ M)
    (h1 : ∀ don x rest σ M (k : SU → Hm → Prop), don ++ x :: rest = l → I don (x :: rest) σ M → (∀ σ' M', g M' → I (don ++ [x]) rest σ' M' → k σ' M') → step (.tup [.int (don.length : Nat), enc x]) k σ M)
    (h2 : ∀ σ M, I l [] σ M → fin σ M) : forL step g fin (enumU (l.map enc)) σ M := by
  suffices h : ∀ (rest don : List α) σ M, don ++ rest = l → I don rest σ M → forL step g fin (((rest.map enc).zipIdx don.length).map fun p => .tup [.int (p.2 : Nat), p.1]) σ M from h l [] σ M rfl h0
  intro rest
  induction rest with
  | nil =>
    intro don σ M e h
    rw [List.append_nil] at e
    subst e
    exact h2 σ M h
  | cons x rest ih =>
    intro don σ M e h
    rw [List.map_cons, List.zipIdx_cons, List.map_cons]
    refine h1 don x rest σ M _ e h fun σ' M' hg hi => ⟨hg, ?_⟩
    have := ih (don ++ [x]) σ' M' (by rw [List.append_assoc]; exact e) hi
    rwa [List.length_append] at this
/-- a dict's comprehension by what holds between -/
theorem dcompL_by {α : Type} {enc : α → U} {step : U → (Hm → Prop) → Hm → Prop} {g : Hm → Prop} {fin : Hm → Prop} (I : List α → List α → Hm → Prop) (l : List α) {M : Hm} (h0 : I [] l M)
    (h1 : ∀ don x rest M (k : Hm → Prop), don ++ x :: rest = l → I don (x :: rest) M → (∀ M', g M' → I (don ++ [x]) rest M' → k M') → step (enc x) k M)
    (h2 : ∀ M, I l [] M → fin M) : dcompL step g fin (l.map enc) M := by
  suffices h : ∀ (rest don : List α) M, don ++ rest = l → I don rest M → dcompL step g fin (rest.map enc) M from h l [] M rfl h0
  intro rest
  induction rest with
  | nil =>
    intro don M e h
    rw [List.append_nil] at e
    subst e
    exact h2 M h
  | cons x rest ih =>
    intro don M e h
    exact h1 don x rest M _ e h fun M' hg hi => ⟨hg, ih (don ++ [x]) M' (by rw [List.append_assoc]; exact e) hi⟩
theorem compL_by {α : Type} {enc : α → U} {step : U → (Option U → Hm → Prop) → Hm → Prop} {g : Hm → Prop} {fin : List U → Hm → Prop} (I : List α → List α → List U → Hm → Prop) (l : List α) {acc : List U} {M : Hm} (h0 : I [] l acc M)
    (h1 : ∀ don x rest acc M (k : Option U → Hm → Prop), don ++ x :: rest = l → I don (x :: rest) acc M → (∀ o M', g M' → (o.isSome = true → acc.length < LIM) → I (don ++ [x]) rest (acc ++ o.toList) M' → k o M') → step (enc x) k M)
    (h2 : ∀ acc M, I l [] acc M → fin acc M) : compL step g fin (l.map enc) acc M := by
  suffices h : ∀ (rest don : List α) acc M, don ++ rest = l → I don rest acc M → compL step g fin (rest.map enc) acc M from h l [] acc M rfl h0
  intro rest
  induction rest with
  | nil =>
    intro don acc M e h
    rw [List.append_nil] at e
    subst e
    exact h2 acc M h
  | cons x rest ih =>
    intro don acc M e h
    exact h1 don x rest acc M _ e h fun o M' hg hl hi => ⟨hg, hl, ih (don ++ [x]) _ M' (by rw [List.append_assoc]; exact e) hi⟩
end Pl

set_option maxHeartbeats 400000
/-! steps for instances and their like -/
namespace Pl
open PySem L2
section
variable {C : CE} {σ : SU} {M : Hm} {Q : QU} {T : Bool → Hm → Prop} {L : List U → Hm → Prop} {a b c d es : E} {i : Nat}
theorem i_fld {f : Str} (q : (w C a).e σ M fun x M1 => ∃ p c fs v, x = .ref p ∧ M1 p = some (.obj c fs) ∧ fs.lookup f = some v ∧ Q v M1) : (w C (.fld f a)).e σ M Q := q
theorem t_fld {f : Str} (q : (w C a).e σ M fun x M1 => ∃ p c fs v, x = .ref p ∧ M1 p = some (.obj c fs) ∧ fs.lookup f = some v ∧ truW v M1 T) : (w C (.fld f a)).t σ M T := q
theorem i_isF {f cn : Str} {p : Addr} {fs : List (Str × U)} {v : U} {R : U → Prop} (hp : M p = some (.obj cn fs)) (hl : fs.lookup f = some v) (q : R v) : ∃ p' c' fs' v', U.ref p = .ref p' ∧ M p' = some (.obj c' fs') ∧ fs'.lookup f = some v' ∧ R v' := ⟨p, cn, fs, v, rfl, hp, hl, q⟩
theorem i_meth {cn m : Str} {f : Nat} (q : (w C a).e σ M fun x M1 => (∃ p fs, x = .ref p ∧ M1 p = some (.obj cn fs) ∧ fs.lookup m = none) ∧ (w C es).l σ M1 fun xs M2 => C f (x :: xs) M2 Q) : (w C (.meth cn m f a es)).e σ M Q := q
theorem t_meth {cn m : Str} {f : Nat} (q : (w C a).e σ M fun x M1 => (∃ p fs, x = .ref p ∧ M1 p = some (.obj cn fs) ∧ fs.lookup m = none) ∧ (w C es).l σ M1 fun xs M2 => C f (x :: xs) M2 fun u M3 => truW u M3 T) : (w C (.meth cn m f a es)).t σ M T := q
theorem i_isO {cn m : Str} {R : Prop} {p : Addr} {fs : List (Str × U)} (hp : M p = some (.obj cn fs)) (hl : fs.lookup m = none) (q : R) : (∃ p' fs', U.ref p = .ref p' ∧ M p' = some (.obj cn fs') ∧ fs'.lookup m = none) ∧ R := ⟨⟨p, fs, rfl, hp, hl⟩, q⟩
theorem i_make {cn : Str} {f : Nat} (q : (w C es).l σ M fun xs M1 => ∀ p, M1 p = none → C f (.ref p :: xs) (um M1 p (.obj cn [])) fun u M2 => u = .non ∧ Q (.ref p) M2) : (w C (.make cn f es)).e σ M Q := q
theorem i_prop {cn m : Str} {f : Nat} (q : (w C a).e σ M fun x M1 => (∃ p fs, x = .ref p ∧ M1 p = some (.obj cn fs)) ∧ C f [x] M1 Q) : (w C (.prop cn m f a)).e σ M Q := q
theorem t_prop {cn m : Str} {f : Nat} (q : (w C a).e σ M fun x M1 => (∃ p fs, x = .ref p ∧ M1 p = some (.obj cn fs)) ∧ C f [x] M1 fun u M3 => truW u M3 T) : (w C (.prop cn m f a)).t σ M T := q
theorem i_isQ {cn : Str} {R : Prop} {p : Addr} {fs : List (Str × U)} (hp : M p = some (.obj cn fs)) (q : R) : (∃ p' fs', U.ref p = .ref p' ∧ M p' = some (.obj cn fs')) ∧ R := ⟨⟨p, fs, rfl, hp⟩, q⟩
theorem i_setdef (q : (w C a).e σ M fun x M1 => isDW x M1 ∧ (w C b).e σ M1 fun y M2 => (w C c).e σ M2 fun v M3 => setdefW x y v M3 Q) : (w C (.setdef a b c)).e σ M Q := q
theorem sd_old {p : Addr} {ks : List (U × U)} {y v u : U} (hp : M p = some (.dct false false ks)) (hk : isKey y = true) (hl : ks.length < LIM) (h : dfind ks y = some u) (q : Q u M) : setdefW (.ref p) y v M Q := ⟨p, ks, rfl, hp, hk, hl, by rw [h]; exact q⟩
theorem sd_new {p : Addr} {ks : List (U × U)} {y v : U} (hp : M p = some (.dct false false ks)) (hk : isKey y = true) (hl : ks.length < LIM) (h : dfind ks y = none) (q : Q v (um M p (.dct false false (ks ++ [(y, v)])))) : setdefW (.ref p) y v M Q := ⟨p, ks, rfl, hp, hk, hl, by
  have e : dput ks y v = ks ++ [(y, v)] := by unfold dput; rw [h]; rfl
  rw [h, e]
  exact q⟩
theorem i_lrng1 {t : Bool} (q : (w C b).e σ M fun y M2 => ∃ n, y = .int n ∧ n ≤ LIM ∧ -LIM ≤ n ∧ if t = true then Q (.tup (rngU 0 n)) M2 else ∀ p, M2 p = none → Q (.ref p) (um M2 p (.lst (rngU 0 n)))) : (w C (.lrng t .nil b)).e σ M Q := by
  refine (?_ : partW .nil (w C .nil).e σ M fun lo M1 => (w C b).e σ M1 fun y M2 => ∃ n, y = .int n ∧ n ≤ LIM ∧ -LIM ≤ n ∧ lo.getD 0 ≤ LIM ∧ -LIM ≤ lo.getD 0 ∧ if t = true then Q (.tup (rngU (lo.getD 0) n)) M2 else ∀ p, M2 p = none → Q (.ref p) (um M2 p (.lst (rngU (lo.getD 0) n))))
  unfold partW
  rw [if_pos (show isNil .nil = true from rfl)]
  have e : (fun (y : U) (M2 : Hm) => ∃ n : Int, y = .int n ∧ n ≤ LIM ∧ -LIM ≤ n ∧ if t = true then Q (.tup (rngU 0 n)) M2 else ∀ p, M2 p = none → Q (.ref p) (um M2 p (.lst (rngU 0 n)))) =
      fun y M2 => ∃ n : Int, y = .int n ∧ n ≤ LIM ∧ -LIM ≤ n ∧ ((none : Option Int).getD 0) ≤ LIM ∧ -LIM ≤ ((none : Option Int).getD 0) ∧ if t = true then Q (.tup (rngU ((none : Option Int).getD 0) n)) M2 else ∀ p, M2 p = none → Q (.ref p) (um M2 p (.lst (rngU ((none : Option Int).getD 0) n))) := by
    funext y M2
    refine propext ⟨fun ⟨(n : Int), h1, h2, h3, h4⟩ => ⟨n, h1, h2, h3, by show (0 : Int) ≤ _; unfold LIM; omega, by show _ ≤ (0 : Int); unfold LIM; omega, h4⟩, fun ⟨(n : Int), h1, h2, h3, _, _, h4⟩ => ⟨n, h1, h2, h3, h4⟩⟩
  rw [e] at q
  exact q
theorem i_lrn {n : Int} {R : Int → Prop} (h1 : n ≤ (LIM : Int)) (h2 : -(LIM : Int) ≤ n) (q : R n) : ∃ m : Int, U.int n = .int m ∧ m ≤ LIM ∧ -LIM ≤ m ∧ R m := ⟨n, rfl, h1, h2, q⟩
theorem i_tidx (q : (w C a).e σ M fun x M1 => (∃ l, x = .dtp l) ∧ (w C b).e σ M1 fun y M2 => tidxW x y M2 Q) : (w C (.tidx a b)).e σ M Q := q
theorem i_isT {l : List U} {R : Prop} (q : R) : (∃ l', U.dtp l = .dtp l') ∧ R := ⟨⟨l, rfl⟩, q⟩
theorem m_tidx {ys : List Str} {z : Str} {j : Nat} (h1 : ys[j]? = some z) (h2 : ∀ m, m < j → ys[m]? ≠ some z) (q : Q (.int (j : Nat)) M) : tidxW (.dtp (ys.map U.str)) (.str z) M Q := ⟨ys, z, j, rfl, rfl, h1, h2, q⟩
theorem in_dtp {x : U} {l : List U} (h1 : l.all isKey = true) (h2 : isKey x = true) (q : T (decide (x ∈ l)) M) : inW false x (.dtp l) M T := ⟨⟨h1, h2⟩, q⟩
theorem nin_dtp {x : U} {l : List U} (h1 : l.all isKey = true) (h2 : isKey x = true) (q : T (!decide (x ∈ l)) M) : inW true x (.dtp l) M T := ⟨⟨h1, h2⟩, q⟩
theorem tr_dtp {l : List U} (q : T (!decide (l = [])) M) : truW (.dtp l) M T := by
  show T (!l.isEmpty) M
  rw [emp_dec]; exact q
theorem x_dtp {l : List U} {j : Int} {v : U} (h : atI l j = some v) (q : Q v M) : ixW (.dtp l) (.int j) M Q := ⟨j, v, rfl, h, q⟩
theorem f_lenU {l : List U} (q : Q (.int l.length) M) : bltW .len [.dtp l] M Q := q
theorem f_listU {l : List U} (q : ∀ a, M a = none → Q (.ref a) (um M a (.lst l))) : bltW .list [.dtp l] M Q := q
theorem f_tupU {l : List U} (q : Q (.dtp l) M) : bltW .tuple [.dtp l] M Q := q
theorem f_tupd {p : Addr} {us : List U} (hp : M p = some (.lst us)) (q : Q (.dtp us) M) : bltW .tupd [.ref p] M Q := ⟨us, hp, q⟩
theorem f_dict {p : Addr} {ks : List (U × U)} (hp : M p = some (.dct false false ks)) (q : ∀ a, M a = none → Q (.ref a) (um M a (.dct false false ks))) : bltW .dict [.ref p] M Q := ⟨ks, hp, q⟩
theorem y_dtp {t : String} {l : List U} (q : T (t == "tuple") M) : isTyW (.dtp l) t M T := q
theorem s_dtp {l : List U} {I : List U → (Hm → Prop) → ((Hm → Prop) → Hm → Prop) → Hm → Prop} (q : I l (fun _ => True) (fun P => P) M) : seqI (.dtp l) M I := q
theorem i_gint {x : Str} {j : Int} (q : Q (.int j) M) : (w C (.gint x j)).e σ M Q := q
theorem i_gstr {x s : Str} (q : Q (.str s) M) : (w C (.gstr x s)).e σ M Q := q
theorem o_rep {p : Addr} {us : List U} {k : Int} (hp : M p = some (.lst us)) (h1 : -LIM ≤ k) (h2 : k ≤ LIM) (h3 : us.length * k.toNat ≤ LIM) (q : ∀ a, M a = none → Q (.ref a) (um M a (.lst (List.replicate k.toNat us).flatten))) : binW .mul (.ref p) (.int k) M Q := ⟨us, hp, h1, h2, h3, q⟩
theorem f_sum {p : Addr} {ns : List Int} (hp : M p = some (.lst (ns.map U.int))) (q : Q (.int ns.sum) M) : bltW .sum [.ref p] M Q := ⟨ns, hp, q⟩
theorem f_all {p : Addr} {bs : List Bool} (hp : M p = some (.lst (bs.map U.bl))) (q : Q (.bl (bs.all id)) M) : bltW .all [.ref p] M Q := ⟨bs, hp, q⟩
theorem f_any {p : Addr} {bs : List Bool} (hp : M p = some (.lst (bs.map U.bl))) (q : Q (.bl (bs.any id)) M) : bltW .any [.ref p] M Q := ⟨bs, hp, q⟩
theorem f_maxL {p : Addr} {ns : List Int} (hp : M p = some (.lst (ns.map U.int))) (h : 0 < ns.length) (q : ∀ m, m ∈ ns → (∀ y, y ∈ ns → y ≤ m) → Q (.int m) M) : bltW .max [.ref p] M Q := ⟨ns, hp, h, q⟩
theorem f_minL {p : Addr} {ns : List Int} (hp : M p = some (.lst (ns.map U.int))) (h : 0 < ns.length) (q : ∀ m, m ∈ ns → (∀ y, y ∈ ns → m ≤ y) → Q (.int m) M) : bltW .min [.ref p] M Q := ⟨ns, hp, h, q⟩
variable {nx : SU → Hm → Prop} {rt : QU} {bk ct : SU → Hm → Prop} {x y z : S}
theorem z_setF {cn f : Str} (q : (w C b).e σ M fun v M1 => (w C a).e σ M1 fun x M2 => ∃ p fs, x = .ref p ∧ M2 p = some (.obj cn fs) ∧ fs.length < 1000 ∧ nx σ (um M2 p (.obj cn (fput f v fs)))) : wS C (.setF cn f a b) ⟨nx, rt, bk, ct⟩ σ M := q
theorem st_fld {cn : Str} {p : Addr} {fs : List (Str × U)} {R : Addr → List (Str × U) → Prop} (hp : M p = some (.obj cn fs)) (hl : fs.length < 1000) (q : R p fs) : ∃ p' fs', U.ref p = .ref p' ∧ M p' = some (.obj cn fs') ∧ fs'.length < 1000 ∧ R p' fs' := ⟨p, fs, rfl, hp, hl, q⟩
end
end Pl

set_option maxHeartbeats 400000
local macro_rules | `(tactic| get_elem_tactic_extensible) => `(tactic| first | assumption | exact Pl.um_same | (refine Pl.um_old ?_ ?_ <;> get_elem_tactic_extensible) | (refine Pl.um_oth (by first | assumption | exact Ne.symm (by assumption)) ?_; get_elem_tactic_extensible) | exact Pl.um_none (by assumption))
local macro_rules | `(tactic| decreasing_trivial_pre_omega) => `(tactic| first | ((with_reducible apply Pl.i_var); exact rfl) | ((with_reducible apply Pl.t_var); exact rfl) | ((with_reducible apply Pl.x_tup); exact rfl) | ((with_reducible apply Pl.x_dtp); exact rfl) | with_reducible refine Pl.z_seq ?_ | with_reducible refine Pl.z_skip ?_ | with_reducible refine Pl.z_asg ?_ | with_reducible refine Pl.z_ret ?_ | with_reducible refine Pl.z_ifs ?_ | with_reducible refine Pl.i_int ?_ | with_reducible refine Pl.i_str ?_ | with_reducible refine Pl.i_bl ?_ | with_reducible refine Pl.i_non ?_ | with_reducible refine Pl.i_cons ?_ | with_reducible refine Pl.i_nil ?_ | with_reducible refine Pl.i_ix ?_ | with_reducible refine Pl.i_cmp ?_ | with_reducible refine Pl.t_cmp ?_ | with_reducible refine Pl.i_call ?_ | with_reducible refine Pl.i_blt ?_ | with_reducible refine Pl.i_tup ?_ | with_reducible refine Pl.i_dtup ?_ | with_reducible refine Pl.i_bin ?_ | with_reducible refine Pl.o_add ?_ | with_reducible refine Pl.o_sub ?_ | with_reducible refine Pl.c_eq ?_ | with_reducible refine Pl.c_ne ?_ | with_reducible refine Pl.eq_int ?_ | with_reducible refine Pl.eq_str ?_ | with_reducible refine Pl.c_lt ?_ | with_reducible refine Pl.c_le ?_ | with_reducible refine Pl.c_gt ?_ | with_reducible refine Pl.c_ge ?_ | with_reducible refine Pl.to_2 ?_ | with_reducible refine Pl.to_1 ?_ | with_reducible refine Pl.ta_2 ?_ | with_reducible refine Pl.ta_1 ?_ | with_reducible refine Pl.t_ors ?_ | with_reducible refine Pl.t_ands ?_ | with_reducible refine Pl.t_not ?_ | with_reducible refine Pl.t_isN ?_ | with_reducible refine Pl.t_notN ?_ | with_reducible refine Pl.t_isB ?_ | with_reducible refine Pl.t_isNB ?_ | with_reducible refine Pl.t_isinst ?_ | with_reducible refine Pl.t_ix ?_ | with_reducible refine Pl.t_call ?_ | with_reducible refine Pl.t_blt ?_ | with_reducible refine Pl.t_bl ?_ | with_reducible refine Pl.t_bin ?_ | with_reducible refine Pl.t_chain ?_ | with_reducible refine Pl.i_lst ?_ | with_reducible refine Pl.i_dnew ?_ | with_reducible refine Pl.i_dnewN ?_ | with_reducible refine Pl.i_neg ?_ | with_reducible refine Pl.i_neg2 ?_ | with_reducible refine Pl.i_chain ?_ | with_reducible refine Pl.i_isN ?_ | with_reducible refine Pl.i_notN ?_ | with_reducible refine Pl.i_isB ?_ | with_reducible refine Pl.i_isNB ?_ | with_reducible refine Pl.i_ands ?_ | with_reducible refine Pl.i_ors ?_ | with_reducible refine Pl.i_not ?_ | with_reducible refine Pl.i_bW ?_ | with_reducible refine Pl.i_exB ?_ | with_reducible refine Pl.i_exI ?_ | with_reducible refine Pl.i_exII ?_ | with_reducible refine Pl.i_ite ?_ | with_reducible refine Pl.i_dget ?_ | with_reducible refine Pl.i_dget1 ?_ | with_reducible refine Pl.t_dget ?_ | with_reducible refine Pl.i_slice ?_ | with_reducible refine Pl.i_part0 ?_ | with_reducible refine Pl.i_mth ?_ | with_reducible refine Pl.i_isinst ?_ | with_reducible refine Pl.i_compN ?_ | with_reducible refine Pl.i_dcomp0 ?_ | with_reducible refine Pl.va_1 ?_ | with_reducible refine Pl.va_2 ?_ | with_reducible refine Pl.vo_1 ?_ | with_reducible refine Pl.vo_2 ?_ | with_reducible refine Pl.c_in ?_ | with_reducible refine Pl.c_nin ?_ | with_reducible refine Pl.eq_bl ?_ | with_reducible refine Pl.tr_bl ?_ | with_reducible refine Pl.tr_int ?_ | with_reducible refine Pl.tr_tup ?_ | with_reducible refine Pl.tr_non ?_ | with_reducible refine Pl.sl_tup ?_ | with_reducible refine Pl.f_lenT ?_ | with_reducible refine Pl.f_listT ?_ | with_reducible refine Pl.f_tupT ?_ | with_reducible refine Pl.f_int ?_ | with_reducible refine Pl.f_intB ?_ | with_reducible refine Pl.f_abs ?_ | with_reducible refine Pl.f_max ?_ | with_reducible refine Pl.f_min ?_ | with_reducible refine Pl.y_non ?_ | with_reducible refine Pl.y_bl ?_ | with_reducible refine Pl.y_int ?_ | with_reducible refine Pl.y_str ?_ | with_reducible refine Pl.y_tup ?_ | with_reducible refine Pl.w_seq ?_ | with_reducible refine Pl.w_rev ?_ | with_reducible refine Pl.r_tup ?_ | with_reducible refine Pl.r_dtp ?_ | with_reducible refine Pl.w_enum ?_ | with_reducible refine Pl.w_rng ?_ | with_reducible refine Pl.w_rng2 ?_ | with_reducible refine Pl.s_tup ?_ | with_reducible refine Pl.s_rol ?_ | with_reducible refine Pl.z_asgT ?_ | with_reducible refine Pl.z_asgU ?_ | with_reducible refine Pl.z_setIx ?_ | with_reducible refine Pl.z_augIx ?_ | with_reducible refine Pl.z_for ?_ | with_reducible refine Pl.z_retN ?_ | with_reducible refine Pl.z_setF ?_ | with_reducible refine Pl.i_fld ?_ | with_reducible refine Pl.t_fld ?_ | with_reducible refine Pl.i_meth ?_ | with_reducible refine Pl.t_meth ?_ | with_reducible refine Pl.i_make ?_ | with_reducible refine Pl.i_prop ?_ | with_reducible refine Pl.t_prop ?_ | with_reducible refine Pl.i_setdef ?_ | with_reducible refine Pl.i_lrng1 ?_ | with_reducible refine Pl.i_gint ?_ | with_reducible refine Pl.i_gstr ?_ | with_reducible refine Pl.i_tidx ?_ | with_reducible refine Pl.i_isT ?_ | with_reducible refine Pl.tr_dtp ?_ | with_reducible refine Pl.f_lenU ?_ | with_reducible refine Pl.f_listU ?_ | with_reducible refine Pl.f_tupU ?_ | with_reducible refine Pl.y_dtp ?_ | with_reducible refine Pl.s_dtp ?_ | with_reducible refine Pl.z_brk ?_ | with_reducible refine Pl.z_cnt ?_ | with_reducible refine Pl.z_expr ?_ | with_reducible refine Pl.tg_one ?_ | with_reducible refine Pl.i_ifn ?_ | ((with_reducible apply Pl.i_compC); exact rfl) | ((with_reducible apply Pl.i_part1); exact rfl) | ((with_reducible apply Pl.z_asgT2); exact rfl) | ((with_reducible apply Pl.z_augV); exact rfl) | ((with_reducible apply Pl.tg_many); exact rfl) | ((with_reducible apply Pl.tr_lst); get_elem_tactic_extensible) | ((with_reducible apply Pl.tr_dct); get_elem_tactic_extensible) | ((with_reducible apply Pl.sl_lst); get_elem_tactic_extensible) | ((with_reducible apply Pl.f_lenL); get_elem_tactic_extensible) | ((with_reducible apply Pl.f_lenD); get_elem_tactic_extensible) | ((with_reducible apply Pl.f_listL); get_elem_tactic_extensible) | ((with_reducible apply Pl.f_listD); get_elem_tactic_extensible) | ((with_reducible apply Pl.f_listN); get_elem_tactic_extensible) | ((with_reducible apply Pl.f_tupL); get_elem_tactic_extensible) | ((with_reducible apply Pl.y_lst); get_elem_tactic_extensible) | ((with_reducible apply Pl.s_lst); get_elem_tactic_extensible) | ((with_reducible apply Pl.r_lst); get_elem_tactic_extensible) | ((with_reducible apply Pl.i_rcvA); get_elem_tactic_extensible) | ((with_reducible apply Pl.i_rcvE); get_elem_tactic_extensible) | ((with_reducible apply Pl.i_rcvP); get_elem_tactic_extensible) | ((with_reducible apply Pl.i_rcvQ); get_elem_tactic_extensible) | ((with_reducible apply Pl.i_rcvX); get_elem_tactic_extensible) | ((with_reducible apply Pl.i_rcvR); get_elem_tactic_extensible) | ((with_reducible apply Pl.i_isD); get_elem_tactic_extensible) | ((with_reducible apply Pl.i_isQ); get_elem_tactic_extensible) | ((with_reducible apply Pl.f_tupd); get_elem_tactic_extensible) | ((with_reducible apply Pl.f_dict); get_elem_tactic_extensible) | ((with_reducible apply Pl.f_sum); get_elem_tactic_extensible) | ((with_reducible apply Pl.f_all); get_elem_tactic_extensible) | ((with_reducible apply Pl.f_any); get_elem_tactic_extensible) | ((with_reducible apply Pl.z_asgU2); get_elem_tactic_extensible; exact rfl) | ((with_reducible apply Pl.x_lst); get_elem_tactic_extensible; exact rfl) | ((with_reducible apply Pl.g_lst); get_elem_tactic_extensible; exact rfl) | ((with_reducible apply Pl.st_lst); get_elem_tactic_extensible; exact rfl) | ((with_reducible apply Pl.i_isF); get_elem_tactic_extensible; exact rfl) | ((with_reducible apply Pl.i_isO); get_elem_tactic_extensible; exact rfl) | ((with_reducible apply Pl.st_fld); get_elem_tactic_extensible; exact Nat.le_of_ble_eq_true rfl) | ((with_reducible apply Pl.i_ift); (first | exact rfl | assumption | decide +kernel)) | ((with_reducible apply Pl.i_iff); (first | exact rfl | assumption | decide +kernel)) | ((with_reducible apply Pl.o_mod); (first | omega | decide)) | ((with_reducible apply Pl.o_fdiv); exact ⟨by first | omega | decide, by first | omega | decide⟩) | ((with_reducible apply Pl.o_mul); first | exact Pl.cmul_l (by omega) (by omega) | exact Pl.cmul_r (by omega) (by omega)) | ((with_reducible apply Pl.o_pow); exact ⟨by decide, by decide, by decide⟩) | ((with_reducible apply Pl.o_shl); exact ⟨by decide, by decide, by decide⟩) | ((with_reducible apply Pl.i_ifdt); (first | assumption | exact rfl | decide +kernel)) | ((with_reducible apply Pl.i_ifdf); (first | assumption | decide +kernel)) | ((with_reducible refine Pl.i_le ?_ ?_); exact Nat.le_of_ble_eq_true rfl) | ((with_reducible refine Pl.i_lt ?_ ?_); exact Nat.le_of_ble_eq_true rfl))
/-! the draws -/
namespace Pl
open PySem L2
/-- a row of draws: where it lies, where its script lies -/
def Dr (M : Hm) (p : Addr × Addr) : Prop := ∃ (cells : List Int) (a b c : Int), p.2 ≠ p.1 ∧ M p.1 = some (.lst [.ref p.2, .int a, .int b, .int c]) ∧ M p.2 = some (.lst (cells.map U.int)) ∧ 0 ≤ a
def bDraw : S := (.seq (.ifs (.cmp .gt (.ix (.var 0) (.int 2)) (.int 0)) (.seq (.asg 2 (.ix (.var 0) (.int 2))) (.seq (.setIx (.var 0) (.int 2) (.bin .fdiv (.var 2) (.var 1))) (.seq (.ret (.bin .mod (.blt .int (.cons (.var 2) .nil)) (.var 1))) .skip))) .skip) (.seq (.asg 3 (.int 0)) (.seq (.ifs (.cmp .lt (.ix (.var 0) (.int 1)) (.blt .len (.cons (.ix (.var 0) (.int 0)) .nil))) (.seq (.asg 4 (.ix (.ix (.var 0) (.int 0)) (.ix (.var 0) (.int 1)))) (.seq (.asg 3 (.bin .add (.bin .mul (.int 2) (.blt .abs (.cons (.var 4) .nil))) (.blt .int (.cons (.cmp .lt (.var 4) (.int 0)) .nil)))) .skip)) .skip) (.seq (.augIx (.var 0) (.int 1) .add (.int 1)) (.seq (.ifs (.cmp .ge (.var 3) (.bin .mul (.int 2) (.bin .pow (.int 10) (.int 18)))) (.seq (.asg 2 (.bin .mod (.blt .int (.cons (.bin .fdiv (.var 3) (.int 2)) .nil)) (.bin .shl (.int 1) (.int 6000)))) (.seq (.setIx (.var 0) (.int 2) (.bin .fdiv (.var 2) (.var 1))) (.seq (.ret (.bin .mod (.blt .int (.cons (.var 2) .nil)) (.var 1))) .skip))) .skip) (.seq (.setIx (.var 0) (.int 3) (.bin .mod (.blt .int (.cons (.bin .add (.bin .add (.bin .add (.bin .mul (.ix (.var 0) (.int 3)) (.int 48271)) (.bin .mul (.bin .mod (.blt .int (.cons (.var 3) .nil)) (.int 2147483629)) (.int 16807))) (.bin .mul (.ix (.var 0) (.int 1)) (.int 69621))) (.int 11)) .nil)) (.int 2147483647))) (.seq (.ret (.bin .mod (.blt .int (.cons (.bin .fdiv (.ix (.var 0) (.int 3)) (.int 16)) .nil)) (.var 1))) .skip)))))))
theorem atI_map {l : List Int} {i : Int} (h0 : 0 ≤ i) (h : i < l.length) : ∃ x, atI (l.map U.int) i = some (.int x) := by
  unfold atI ixN
  rw [if_pos h0]
  have hn : i.toNat < l.length := by omega
  refine ⟨l[i.toNat], ?_⟩
  rw [if_pos (by rw [List.length_map]; exact h)]
  simp [hn]
theorem draw_ok {C : CE} {nx bk ct : SU → Hm → Prop} {rt : QU} {M : Hm} {p : Addr × Addr} {many : Int} (h : Dr M p) (h1 : 0 < many) (h2 : many < 1073741824)
    (hq : ∀ r M', 0 ≤ r → r < many → Dr M' p → (∀ a, a ≠ p.1 → M' a = M a) → rt (.int r) M') : wS C bDraw ⟨nx, rt, bk, ct⟩ (startU 5 [.ref p.1, .int many]) M := by
  obtain ⟨cells, a, b, c, hn, hp, hc, ha⟩ := h
  have many_ne : many ≠ 0 := by omega
  have fin : ∀ (a b c : Int) (x : Int), 0 ≤ a → rt (.int (x % many)) (um M p.1 (.lst [.ref p.2, .int a, .int b, .int c])) := fun a b c x ha =>
    hq _ _ (Int.emod_nonneg _ many_ne) (Int.emod_lt_of_pos _ h1) ⟨cells, a, b, c, hn, um_same, by rw [um_ne hn]; exact hc, ha⟩ (fun a h => um_ne h)
  unfold bDraw
  (repeat decreasing_trivial_pre_omega)
  refine i_ifd (fun hb => ?_) (fun hb => ?_)
  · (repeat decreasing_trivial_pre_omega)
    exact fin _ _ _ _ ha
  · (repeat decreasing_trivial_pre_omega)
    refine i_ifd (fun hi => ?_) (fun hi => ?_)
    · (repeat decreasing_trivial_pre_omega)
      obtain ⟨x, hx⟩ := atI_map ha (by simpa using hi)
      refine x_lst hc hx ?_
      (repeat decreasing_trivial_pre_omega)
      refine i_ifd (fun hs => ?_) (fun hs => ?_)
      · (repeat decreasing_trivial_pre_omega)
        simp only [um_um]
        exact fin _ _ _ _ (by omega)
      · (repeat decreasing_trivial_pre_omega)
        simp only [um_um]
        exact fin _ _ _ _ (by omega)
    · (repeat decreasing_trivial_pre_omega)
      simp only [um_um]
      exact fin _ _ _ _ (by omega)
/-- what is not the draws' own stays -/
def Fr (p : Addr × Addr) (M M' : Hm) : Prop := ∀ a, a ≠ p.1 → ∀ o, M a = some o → M' a = some o
theorem Fr.refl (p : Addr × Addr) (M : Hm) : Fr p M M := fun _ _ _ h => h
theorem Fr.trans {p : Addr × Addr} {A B D : Hm} (h : Fr p A B) (g : Fr p B D) : Fr p A D := fun a n o e => g a n o (h a n o e)
theorem Fr.at_ {p : Addr × Addr} {a : Addr} {A B : Hm} {r : MO} (h : Fr p A B) (n : a ≠ p.1) (e : A a = some r) : B a = some r := h a n r e
theorem Sub.fr {p : Addr × Addr} {A B : Hm} (h : Sub A B) : Fr p A B := fun a _ o e => h a o e
theorem Fr.of_eq {p : Addr × Addr} {A B : Hm} (h : ∀ a, a ≠ p.1 → B a = A a) : Fr p A B := fun a n o e => (h a n).trans e
theorem Dr.mem {M : Hm} {p : Addr × Addr} (h : Dr M p) : ∃ o, M p.1 = some o := by
  obtain ⟨cells, a, b, c, hn, hp, hc, ha⟩ := h
  exact ⟨_, hp⟩
theorem Dr.ne {M : Hm} {p : Addr × Addr} {a : Addr} (h : Dr M p) (ha : M a = none) : a ≠ p.1 := by
  obtain ⟨o, e⟩ := h.mem
  exact ne_of_old' e ha
/-- a thing of its own does not touch the draws -/
theorem Dr.upd {M : Hm} {p : Addr × Addr} {a : Addr} {o : MO} (h : Dr M p) (ha : M a = none) : Dr (um M a o) p := by
  have hne := h.ne ha
  obtain ⟨cells, i, b, c, hn, hp, hc, hi⟩ := h
  exact ⟨cells, i, b, c, hn, um_old hp ha, um_old hc ha, hi⟩
theorem Dr.sub {M M' : Hm} {p : Addr × Addr} (h : Dr M p) (s : Sub M M') : Dr M' p := by
  obtain ⟨cells, i, b, c, hn, hp, hc, hi⟩ := h
  exact ⟨cells, i, b, c, hn, s _ _ hp, s _ _ hc, hi⟩
def DrawC (C : CE) (f : Nat) : Prop := ∀ (M : Hm) (p : Addr × Addr) (many : Int) (Q : QU), Dr M p → 0 < many → many < 1073741824 →
  (∀ r M', 0 ≤ r → r < many → Dr M' p → Fr p M M' → Q (.int r) M') → C f [.ref p.1, .int many] M Q
theorem Dr.ne2 {M : Hm} {p : Addr × Addr} {a : Addr} (h : Dr M p) (ha : M a = none) : a ≠ p.2 := by
  obtain ⟨cells, i, b, c, hn, hp, hc, hi⟩ := h
  exact ne_of_old' hc ha
/-- a thing that is not the draws' own may change -/
theorem Dr.upd2 {M : Hm} {p : Addr × Addr} {a : Addr} {o : MO} (h : Dr M p) (h1 : a ≠ p.1) (h2 : a ≠ p.2) : Dr (um M a o) p := by
  obtain ⟨cells, i, b, c, hn, hp, hc, hi⟩ := h
  exact ⟨cells, i, b, c, hn, um_oth h1.symm hp, um_oth h2.symm hc, hi⟩
theorem Fr.non {p : Addr × Addr} {A B : Hm} {a : Addr} (h : Fr p A B) (n : a ≠ p.1) (e : B a = none) : A a = none := by
  cases q : A a with
  | none => rfl
  | some o => rw [h a n o q] at e; cases e
theorem Fr.upd {p : Addr × Addr} {A B : Hm} {a : Addr} {o : MO} (h : Fr p A B) (e : A a = none) : Fr p A (um B a o) := fun b n o' q => by
  rw [um_ne (ne_of_old q e)]
  exact h b n o' q
end Pl

set_option maxHeartbeats 400000
/-! one of a row; what the laws' own parts share -/
namespace Pl
open PySem L2
def bPick (f : Nat) : S := (.seq (.ret (.ix (.var 1) (.call f (.cons (.var 0) (.cons (.blt .len (.cons (.var 1) .nil)) .nil))))) .skip)
def RowAt (M : Hm) (p : Addr × Addr) (row : U) (us : List U) : Prop := row = .tup us ∨ ∃ r, row = .ref r ∧ r ≠ p.1 ∧ M r = some (.lst us)
theorem atI_nn {α : Type} {l : List α} {r : Int} (h0 : 0 ≤ r) (h : r < l.length) : ∃ x, atI l r = some x ∧ x ∈ l := by
  have hn : r.toNat < l.length := by omega
  refine ⟨l[r.toNat], ?_, List.getElem_mem hn⟩
  unfold atI ixN
  rw [if_pos h0, if_pos h]
  show l[r.toNat]? = some l[r.toNat]
  exact List.getElem?_eq_getElem hn
theorem pick_ok {C : CE} {f : Nat} (hd : DrawC C f) {nx bk ct : SU → Hm → Prop} {rt : QU} {M : Hm} {p : Addr × Addr} {row : U} {us : List U} (h : Dr M p) (hr : RowAt M p row us) (h1 : us ≠ []) (h2 : us.length < 1073741824)
    (hq : ∀ x M', x ∈ us → Dr M' p → Fr p M M' → rt x M') : wS C (bPick f) ⟨nx, rt, bk, ct⟩ (startU 2 [.ref p.1, row]) M := by
  have hl : 0 < us.length := List.length_pos_iff.mpr h1
  unfold bPick
  (repeat decreasing_trivial_pre_omega)
  rcases hr with rfl | ⟨r, rfl, hn, hm⟩
  · (repeat decreasing_trivial_pre_omega)
    refine hd _ _ _ _ h (by omega) (by omega) fun r M' r0 r1 d' fr => ?_
    obtain ⟨x, hx, hxm⟩ := atI_nn r0 r1
    refine x_tup hx ?_
    exact hq _ _ hxm d' fr
  · (repeat decreasing_trivial_pre_omega)
    refine hd _ _ _ _ h (by omega) (by omega) fun i M' r0 r1 d' fr => ?_
    obtain ⟨x, hx, hxm⟩ := atI_nn r0 r1
    refine x_lst (fr.at_ hn hm) hx ?_
    exact hq _ _ hxm d' fr
def PickC (C : CE) (f : Nat) : Prop := ∀ (M : Hm) (p : Addr × Addr) (row : U) (us : List U) (Q : QU), Dr M p → RowAt M p row us → us ≠ [] → us.length < 1073741824 →
  (∀ x M', x ∈ us → Dr M' p → Fr p M M' → Q x M') → C f [.ref p.1, row] M Q
theorem DrawC.lt {C : CE} {f : Nat} (h : DrawC C f) (M : Hm) (p : Addr × Addr) (many : Nat) (Q : QU) (d : Dr M p) (h0 : 0 < many) (h1 : many < 1073741824) (hq : ∀ (r : Nat) M', r < many → Dr M' p → Fr p M M' → Q (.int r) M') : C f [.ref p.1, .int many] M Q :=
  h M p many Q d (by omega) (by omega) fun r M' r0 r1 d' fr => by
    have e : r = ((r.toNat : Nat) : Int) := by omega
    rw [e]
    exact hq r.toNat M' (by omega) d' fr
theorem atI_nat {α : Type} {l : List α} {i : Nat} (h : i < l.length) : atI l (i : Int) = some l[i] := by
  unfold atI ixN
  rw [if_pos (by omega), if_pos (by omega)]
  show l[((i : Nat) : Int).toNat]? = _
  rw [Int.toNat_natCast]
  exact List.getElem?_eq_getElem h
theorem rngU_nat (n : Nat) : rngU 0 (n : Int) = (List.range n).map fun i => .int (i : Nat) := by
  unfold rngU
  rw [Int.sub_zero, Int.toNat_natCast]
  refine List.map_congr_left fun i _ => ?_
  rw [Int.zero_add]
def bBegin : S := (.seq (.ret (.lst (.cons (.comp [("cell", 1)] (.one 1) (.iSeq (.var 0)) .nil (.blt .int (.cons (.var 1) .nil))) (.cons (.int 0) (.cons (.int 0) (.cons (.int 7) .nil)))))) .skip)
theorem begin_ok {C : CE} {nx bk ct : SU → Hm → Prop} {rt : QU} {M : Hm} {ns : List Int} (hl : ns.length ≤ 63) (hq : ∀ (p : Addr × Addr) M', Sub M M' → Dr M' p → rt (.ref p.1) M') : wS C bBegin ⟨nx, rt, bk, ct⟩ (startU 2 [.rol (ns.map U.int)]) M := by
  unfold bBegin
  (repeat decreasing_trivial_pre_omega)
  refine compL_by (fun don rest acc M' => M' = M ∧ acc = don.map U.int) ns ⟨rfl, rfl⟩ ?_ ?_
  · intro don x rest acc M' k e ⟨e1, e2⟩ hk
    subst e1 e2
    (repeat decreasing_trivial_pre_omega)
    refine hk _ _ trivial (fun _ => ?_) ⟨rfl, by simp⟩
    have : don.length ≤ ns.length := by rw [← e]; simp
    simp [LIM]
    omega
  · intro acc M' ⟨e1, e2⟩
    subst e1 e2
    (repeat decreasing_trivial_pre_omega)
    intro q hq0
    (repeat decreasing_trivial_pre_omega)
    intro p hp0
    refine hq (p, q) _ ?_ ⟨ns, 0, 0, 7, ?_, um_same, ?_, by decide⟩
    · exact sub_um (sub_um (Sub.refl _) hq0) (um_none hp0)
    · intro e; have e : q = p := e; subst e; rw [um_same] at hp0; cases hp0
    · exact um_old um_same hp0
theorem snocs {α : Type} {P : List α → Prop} (h0 : P []) (h1 : ∀ l x, P l → P (l ++ [x])) (l : List α) : P l := by
  suffices h : ∀ (r d : List α), P d → P (d ++ r) from h l [] h0
  intro r
  induction r with
  | nil => intro d h; rwa [List.append_nil]
  | cons x r ih => intro d h; have := ih (d ++ [x]) (h1 d x h); rwa [List.append_assoc] at this
/-! dicts as rows of pairs -/
theorem dput_len (ks : List (U × U)) (x v : U) : (dput ks x v).length ≤ ks.length + 1 := by
  unfold dput
  split
  · rw [List.length_map]; omega
  · rw [List.length_append]; exact Nat.le_refl _
theorem dfind_isSome {ks : List (U × U)} {x : U} : (dfind ks x).isSome = decide (x ∈ ks.map (·.1)) := by
  unfold dfind
  rw [Option.isSome_map]
  rw [Bool.eq_iff_iff, List.find?_isSome, decide_eq_true_eq, List.mem_map]
  constructor
  · rintro ⟨p, hp, e⟩; exact ⟨p, hp, of_decide_eq_true e⟩
  · rintro ⟨p, hp, e⟩; exact ⟨p, hp, decide_eq_true e⟩
theorem dput_keys (ks : List (U × U)) (x v : U) : (dput ks x v).map (·.1) = if x ∈ ks.map (·.1) then ks.map (·.1) else ks.map (·.1) ++ [x] := by
  unfold dput
  rw [dfind_isSome]
  by_cases h : x ∈ ks.map (·.1)
  · rw [if_pos (decide_eq_true h), if_pos h, List.map_map]
    refine List.map_congr_left fun p _ => ?_
    show (if p.1 = x then (p.1, v) else p).1 = p.1
    split <;> rfl
  · rw [if_neg (by simpa using h), if_neg h, List.map_append]
    rfl
theorem dput_mem {ks : List (U × U)} {x v : U} {p : U × U} (h : p ∈ dput ks x v) : p ∈ ks ∨ p = (x, v) := by
  unfold dput at h
  split at h
  · rw [List.mem_map] at h
    obtain ⟨q, hq, e⟩ := h
    split at e
    · rename_i hx
      right; rw [← e, hx]
    · left; rw [← e]; exact hq
  · rw [List.mem_append, List.mem_singleton] at h
    exact h
theorem dput_nodup {ks : List (U × U)} {x v : U} (h : (ks.map (·.1)).Nodup) : ((dput ks x v).map (·.1)).Nodup := by
  rw [dput_keys]
  split
  · exact h
  · rename_i hn
    rw [List.nodup_append]
    exact ⟨h, by simp, fun a ha b hb e => by rw [List.mem_singleton] at hb; subst hb; subst e; exact hn ha⟩
theorem dfind_mem {ks : List (U × U)} (h : (ks.map (·.1)).Nodup) {p : U × U} (hp : p ∈ ks) : dfind ks p.1 = some p.2 := by
  induction ks with
  | nil => cases hp
  | cons q ks ih =>
    rw [List.map_cons, List.nodup_cons] at h
    unfold dfind
    rw [List.find?_cons]
    rcases List.mem_cons.mp hp with e | hp
    · subst e
      simp
    · have hne : q.1 ≠ p.1 := fun e => h.1 (by rw [e]; exact List.mem_map_of_mem hp)
      rw [show decide (q.1 = p.1) = false from decide_eq_false hne]
      exact ih h.2 hp
theorem dput_find (ks : List (U × U)) (x v : U) : dfind (dput ks x v) x = some v := by
  unfold dput
  cases h : (dfind ks x).isSome with
  | true =>
    rw [if_pos rfl]
    induction ks with
    | nil => cases h
    | cons q ks ih =>
      unfold dfind
      rw [List.map_cons, List.find?_cons]
      by_cases e : q.1 = x
      · rw [if_pos e]
        simp [e]
      · rw [if_neg e, show decide (q.1 = x) = false from decide_eq_false e]
        refine ih ?_
        unfold dfind at h ⊢
        rw [List.find?_cons, show decide (q.1 = x) = false from decide_eq_false e] at h
        exact h
  | false =>
    rw [if_neg (by decide)]
    unfold dfind at h ⊢
    rw [List.find?_append]
    cases q : ks.find? (fun p => decide (p.1 = x)) with
    | some p => rw [q] at h; cases h
    | none => simp
theorem cutU_take {α : Type} (l : List α) (n : Nat) : cutU l none (some (n : Int)) = l.take n := by
  unfold cutU HT.sIx
  simp only [List.drop_zero, Nat.sub_zero]
  rw [if_neg (by omega), Int.toNat_natCast]
  rcases Nat.le_total n l.length with h | h
  · rw [Nat.min_eq_left h]
  · rw [Nat.min_eq_right h, List.take_length, List.take_of_length_le h]
theorem okL_of {l : List U} (h : ∀ x ∈ l, x.ok 59 = true) : okL l = true := List.all_eq_true.mpr h
theorem pd_tup (x : U) (l : List U) : pd (.tup (x :: l)) = .tuple (pd x :: pdL l) := by simp [pd, pdL]
end Pl

set_option maxHeartbeats 4000000
/-! the text's small syntax, its check, its head: printed by wip/gen.py -/
namespace K71
open PySem L2 Pl
/-- step_of -/
def b0 : S := (.seq (.ifs (.cmp .eq (.ix (.var 0) (.int 0)) (.str "see")) (.seq (.ret (.tup (.cons (.str "see") (.cons (.ix (.var 0) (.int 1)) .nil)))) .skip) .skip) (.seq (.ret (.var 0)) .skip))
def d0 : Df := { name := "step_of", ps := ["event"], N := ["event"], b := b0 }
/-- step_after -/
def b1 : S := (.seq (.asg 2 (.blt .len (.cons (.var 1) .nil))) (.seq (.ifs (.cmp .ne (.slice (.var 0) .nil (.var 2)) (.var 1)) (.seq (.ret .non) .skip) .skip) (.seq (.ifs (.cmp .eq (.var 2) (.blt .len (.cons (.var 0) .nil))) (.seq (.ret (.tup (.cons (.str "done") .nil))) .skip) .skip) (.seq (.ret (.call 0 (.cons (.ix (.var 0) (.var 2)) .nil))) .skip))))
def d1 : Df := { name := "step_after", ps := ["trace", "events"], N := ["trace", "events", "many"], b := b1 }
/-- first_step -/
def b2 : S := (.seq (.for_ (.many [3, 4]) (.iSeq (.var 0)) (.seq (.ifs (.cmp .eq (.var 3) (.var 1)) (.seq (.asg 5 (.call 1 (.cons (.var 4) (.cons (.var 2) .nil)))) (.seq (.ifs (.notN (.var 5)) (.seq (.ret (.var 5)) .skip) .skip) .skip)) .skip) .skip)) (.seq (.ret .non) .skip))
def d2 : Df := { name := "first_step", ps := ["papers", "rule", "events"], N := ["papers", "rule", "events", "name", "trace", "step"], b := b2 }
/-- table_step -/
def b3 : S := (.seq (.for_ (.many [3, 4, 5]) (.iSeq (.var 0)) (.seq (.ifs (.ands (.cons (.cmp .eq (.var 3) (.var 1)) (.cons (.cmp .eq (.var 4) (.var 2)) .nil))) (.seq (.ret (.var 5)) .skip) .skip) .skip)) (.seq (.ret .non) .skip))
def d3 : Df := { name := "table_step", ps := ["table", "rule", "events"], N := ["table", "rule", "events", "name", "behind_events", "step"], b := b3 }
/-- Cache.__init__ -/
def b4 : S := (.seq (.setF "Cache" "_room" (.var 0) (.var 1)) (.seq (.setF "Cache" "_papers" (.var 0) (.lst .nil)) (.seq (.setF "Cache" "_table" (.var 0) .non) .skip)))
def d4 : Df := ⟨"__init__", ["self", "room"], ["self", "room"], b4, some "Cache", "Cache.__init__", false⟩
/-- Cache.papers -/
def b5 : S := (.seq (.ret (.blt .tuple (.cons (.fld "_papers" (.var 0)) .nil))) .skip)
def d5 : Df := ⟨"papers", ["self"], ["self"], b5, some "Cache", "Cache.papers", true⟩
/-- Cache.honest -/
def b6 : S := (.seq (.ret (.isN (.fld "_table" (.var 0)))) .skip)
def d6 : Df := ⟨"honest", ["self"], ["self"], b6, some "Cache", "Cache.honest", true⟩
/-- Cache.put -/
def b7 : S := (.seq (.ifs (.cmp .isin (.var 1) (.fld "_papers" (.var 0))) (.seq (.ret (.bl false)) .skip) .skip) (.seq (.expr (.mth .append (.fld "_papers" (.var 0)) (.cons (.var 1) .nil))) (.seq (.ifs (.cmp .gt (.blt .len (.cons (.fld "_papers" (.var 0)) .nil)) (.fld "_room" (.var 0))) (.seq (.expr (.mth .popAt (.fld "_papers" (.var 0)) (.cons (.int 0) .nil))) .skip) .skip) (.seq (.ret (.bl true)) .skip))))
def d7 : Df := ⟨"put", ["self", "paper"], ["self", "paper"], b7, some "Cache", "Cache.put", false⟩
/-- Cache.answer -/
def b8 : S := (.seq (.ifs (.isN (.fld "_table" (.var 0))) (.seq (.ret (.call 2 (.cons (.fld "_papers" (.var 0)) (.cons (.var 1) (.cons (.var 2) .nil))))) .skip) .skip) (.seq (.ret (.call 3 (.cons (.fld "_table" (.var 0)) (.cons (.var 1) (.cons (.var 2) .nil))))) .skip))
def d8 : Df := ⟨"answer", ["self", "rule", "events"], ["self", "rule", "events"], b8, some "Cache", "Cache.answer", false⟩
/-- Cache.corrupt -/
def b9 : S := (.seq (.setF "Cache" "_table" (.var 0) (.var 1)) .skip)
def d9 : Df := ⟨"corrupt", ["self", "table"], ["self", "table"], b9, some "Cache", "Cache.corrupt", false⟩
/-- each_once -/
def b10 : S := (.seq (.asg 1 .dnewN) (.seq (.for_ (.one 2) (.iSeq (.var 0)) (.seq (.setIx (.var 1) (.var 2) (.bl true)) .skip)) (.seq (.ret (.blt .tuple (.cons (.blt .list (.cons (.var 1) .nil)) .nil))) .skip)))
def d10 : Df := { name := "each_once", ps := ["things"], N := ["things", "met", "thing"], b := b10 }
/-- begins_with -/
def b11 : S := (.seq (.ret (.ands (.cons (.cmp .le (.blt .len (.cons (.var 1) .nil)) (.blt .len (.cons (.var 0) .nil))) (.cons (.cmp .eq (.slice (.var 0) .nil (.blt .len (.cons (.var 1) .nil))) (.var 1)) .nil)))) .skip)
def d11 : Df := { name := "begins_with", ps := ["trace", "events"], N := ["trace", "events"], b := b11 }
/-- step_behind -/
def b12 : S := (.seq (.ifs (.cmp .eq (.var 1) (.blt .len (.cons (.var 0) .nil))) (.seq (.ret (.tup (.cons (.str "done") .nil))) .skip) .skip) (.seq (.asg 2 (.ix (.var 0) (.var 1))) (.seq (.ifs (.cmp .eq (.ix (.var 2) (.int 0)) (.str "see")) (.seq (.ret (.tup (.cons (.str "see") (.cons (.ix (.var 2) (.int 1)) .nil)))) .skip) .skip) (.seq (.ret (.var 2)) .skip))))
def d12 : Df := { name := "step_behind", ps := ["trace", "many"], N := ["trace", "many", "event"], b := b12 }
/-- Shelf.__init__ -/
def b13 : S := (.seq (.setF "Shelf" "_row" (.var 0) (.call 10 (.cons (.var 1) .nil))) (.seq (.setF "Shelf" "_held" (.var 0) (.dcompN [("paper", 2)] (.one 2) (.iSeq (.fld "_row" (.var 0))) .nil (.var 2) (.bl true))) .skip))
def d13 : Df := ⟨"__init__", ["self", "papers"], ["self", "papers", "paper"], b13, some "Shelf", "Shelf.__init__", false⟩
/-- Shelf.papers -/
def b14 : S := (.seq (.ret (.fld "_row" (.var 0))) .skip)
def d14 : Df := ⟨"papers", ["self"], ["self"], b14, some "Shelf", "Shelf.papers", true⟩
/-- Shelf.many -/
def b15 : S := (.seq (.ret (.blt .len (.cons (.fld "_row" (.var 0)) .nil))) .skip)
def d15 : Df := ⟨"many", ["self"], ["self"], b15, some "Shelf", "Shelf.many", false⟩
/-- Shelf.of -/
def b16 : S := (.seq (.ret (.blt .tuple (.cons (.comp [("paper", 2)] (.one 2) (.iSeq (.fld "_row" (.var 0))) (.cmp .eq (.ix (.var 2) (.int 0)) (.var 1)) (.var 2)) .nil))) .skip)
def d16 : Df := ⟨"of", ["self", "rule"], ["self", "rule", "paper"], b16, some "Shelf", "Shelf.of", false⟩
/-- Shelf.follow -/
def b17 : S := (.seq (.asg 3 .dnewN) (.seq (.for_ (.many [4, 5]) (.iSeq (.meth "Shelf" "of" 16 (.var 0) (.cons (.var 1) .nil))) (.seq (.ifs (.call 11 (.cons (.var 5) (.cons (.var 2) .nil))) (.seq (.setIx (.var 3) (.call 12 (.cons (.var 5) (.cons (.blt .len (.cons (.var 2) .nil)) .nil))) (.bl true)) .skip) .skip) .skip)) (.seq (.ret (.blt .tuple (.cons (.blt .sorted (.cons (.var 3) .nil)) .nil))) .skip)))
def d17 : Df := ⟨"follow", ["self", "rule", "trace"], ["self", "rule", "trace", "steps", "name", "told"], b17, some "Shelf", "Shelf.follow", false⟩
/-- Shelf.without -/
def b18 : S := (.seq (.ret (.make "Shelf" 13 (.cons (.blt .tuple (.cons (.comp [("paper", 2)] (.one 2) (.iSeq (.fld "_row" (.var 0))) (.cmp .ne (.ix (.var 2) (.int 0)) (.var 1)) (.var 2)) .nil)) .nil))) .skip)
def d18 : Df := ⟨"without", ["self", "rule"], ["self", "rule", "paper"], b18, some "Shelf", "Shelf.without", false⟩
/-- Shelf.__contains__ -/
def b19 : S := (.seq (.ret (.cmp .isin (.var 1) (.fld "_held" (.var 0)))) .skip)
def d19 : Df := ⟨"__contains__", ["self", "paper"], ["self", "paper"], b19, some "Shelf", "Shelf.__contains__", false⟩
/-- Shelf.__iter__ -/
def b20 : S := (.seq .nvr .skip)
def d20 : Df := ⟨"__iter__", ["self"], ["self"], b20, some "Shelf", "Shelf.__iter__", false⟩
/-- Shelf.__add__ -/
def b21 : S := (.seq (.ret (.make "Shelf" 13 (.cons (.bin .add (.fld "_row" (.var 0)) (.prop "Shelf" "papers" 14 (.var 1))) .nil))) .skip)
def d21 : Df := ⟨"__add__", ["self", "other"], ["self", "other"], b21, some "Shelf", "Shelf.__add__", false⟩
/-- _law_begin -/
def b22 : S := (.seq (.ret (.lst (.cons (.comp [("cell", 1)] (.one 1) (.iSeq (.var 0)) .nil (.blt .int (.cons (.var 1) .nil))) (.cons (.int 0) (.cons (.int 0) (.cons (.int 7) .nil)))))) .skip)
def d22 : Df := { name := "_law_begin", ps := ["script"], N := ["script", "cell"], b := b22 }
/-- _law_draw -/
def b23 : S := (.seq (.ifs (.cmp .gt (.ix (.var 0) (.int 2)) (.int 0)) (.seq (.asg 2 (.ix (.var 0) (.int 2))) (.seq (.setIx (.var 0) (.int 2) (.bin .fdiv (.var 2) (.var 1))) (.seq (.ret (.bin .mod (.blt .int (.cons (.var 2) .nil)) (.var 1))) .skip))) .skip) (.seq (.asg 3 (.int 0)) (.seq (.ifs (.cmp .lt (.ix (.var 0) (.int 1)) (.blt .len (.cons (.ix (.var 0) (.int 0)) .nil))) (.seq (.asg 4 (.ix (.ix (.var 0) (.int 0)) (.ix (.var 0) (.int 1)))) (.seq (.asg 3 (.bin .add (.bin .mul (.int 2) (.blt .abs (.cons (.var 4) .nil))) (.blt .int (.cons (.cmp .lt (.var 4) (.int 0)) .nil)))) .skip)) .skip) (.seq (.augIx (.var 0) (.int 1) .add (.int 1)) (.seq (.ifs (.cmp .ge (.var 3) (.bin .mul (.int 2) (.bin .pow (.int 10) (.int 18)))) (.seq (.asg 2 (.bin .mod (.blt .int (.cons (.bin .fdiv (.var 3) (.int 2)) .nil)) (.bin .shl (.int 1) (.int 6000)))) (.seq (.setIx (.var 0) (.int 2) (.bin .fdiv (.var 2) (.var 1))) (.seq (.ret (.bin .mod (.blt .int (.cons (.var 2) .nil)) (.var 1))) .skip))) .skip) (.seq (.setIx (.var 0) (.int 3) (.bin .mod (.blt .int (.cons (.bin .add (.bin .add (.bin .add (.bin .mul (.ix (.var 0) (.int 3)) (.int 48271)) (.bin .mul (.bin .mod (.blt .int (.cons (.var 3) .nil)) (.int 2147483629)) (.int 16807))) (.bin .mul (.ix (.var 0) (.int 1)) (.int 69621))) (.int 11)) .nil)) (.int 2147483647))) (.seq (.ret (.bin .mod (.blt .int (.cons (.bin .fdiv (.ix (.var 0) (.int 3)) (.int 16)) .nil)) (.var 1))) .skip)))))))
def d23 : Df := { name := "_law_draw", ps := ["d", "many"], N := ["d", "many", "found", "size", "cell"], b := b23 }
/-- _law_pick -/
def b24 : S := (.seq (.ret (.ix (.var 1) (.call 23 (.cons (.var 0) (.cons (.blt .len (.cons (.var 1) .nil)) .nil))))) .skip)
def d24 : Df := { name := "_law_pick", ps := ["d", "row"], N := ["d", "row"], b := b24 }
/-- _law_rare -/
def b25 : S := (.seq (.ret (.cmp .eq (.call 23 (.cons (.var 0) (.cons (.var 1) .nil))) (.bin .fdiv (.var 1) (.int 2)))) .skip)
def d25 : Df := { name := "_law_rare", ps := ["d", "many"], N := ["d", "many"], b := b25 }
/-- _law_shuffled -/
def b26 : S := (.seq (.asg 2 (.blt .list (.cons (.var 1) .nil))) (.seq (.asg 3 (.lst .nil)) (.seq (.for_ (.one 4) (.iRange (.blt .len (.cons (.var 2) .nil))) (.seq (.expr (.mth .append (.var 3) (.cons (.mth .popAt (.var 2) (.cons (.call 23 (.cons (.var 0) (.cons (.blt .len (.cons (.var 2) .nil)) .nil))) .nil)) .nil))) .skip)) (.seq (.ret (.var 3)) .skip))))
def d26 : Df := { name := "_law_shuffled", ps := ["d", "row"], N := ["d", "row", "left", "found", "k"], b := b26 }
/-- _law_files -/
def b27 : S := (.seq (.ret (.mth .split (.str "x y z lib gen conf objs tag page table o hdr mainfile ver docs w zz linkmap au cc") (.cons (.str " ") .nil))) .skip)
def d27 : Df := { name := "_law_files", ps := [], N := [], b := b27 }
/-- _law_rules -/
def b28 : S := (.seq (.ret (.mth .split (.str "r q p all link comp lexer bind pack test goal x lastrule u v deep") (.cons (.str " ") .nil))) .skip)
def d28 : Df := { name := "_law_rules", ps := [], N := [], b := b28 }
/-- _law_same -/
def b29 : S := (.seq (.ifs (.isinst (.var 1) "tuple") (.seq (.ifs (.ors (.cons (.not (.isinst (.var 0) "tuple")) (.cons (.cmp .ne (.blt .len (.cons (.var 0) .nil)) (.blt .len (.cons (.var 1) .nil))) .nil))) (.seq (.ret (.bl false)) .skip) .skip) (.seq (.for_ (.one 2) (.iRange (.blt .len (.cons (.var 1) .nil))) (.seq (.ifs (.not (.call 29 (.cons (.ix (.var 0) (.var 2)) (.cons (.ix (.var 1) (.var 2)) .nil)))) (.seq (.ret (.bl false)) .skip) .skip) .skip)) (.seq (.ret (.bl true)) .skip))) .skip) (.seq (.ifs (.isN (.var 1)) (.seq (.ret (.isN (.var 0))) .skip) .skip) (.seq (.ifs (.isinst (.var 1) "bool") (.seq (.ret (.ands (.cons (.isinst (.var 0) "bool") (.cons (.cmp .eq (.var 0) (.var 1)) .nil)))) .skip) .skip) (.seq (.ifs (.isinst (.var 1) "str") (.seq (.ret (.ands (.cons (.isinst (.var 0) "str") (.cons (.cmp .eq (.var 0) (.var 1)) .nil)))) .skip) .skip) (.seq (.ret (.ands (.cons (.isinst (.var 0) "int") (.cons (.not (.isinst (.var 0) "bool")) (.cons (.cmp .eq (.var 0) (.var 1)) .nil))))) .skip)))))
def d29 : Df := { name := "_law_same", ps := ["told", "due"], N := ["told", "due", "k"], b := b29 }
/-- _law_any_step -/
def b30 : S := (.seq (.asg 2 (.call 23 (.cons (.var 0) (.cons (.int 6) .nil)))) (.seq (.asg 3 (.call 24 (.cons (.var 0) (.cons (.var 1) .nil)))) (.seq (.ifs (.cmp .eq (.var 2) (.int 0)) (.seq (.ret (.tup (.cons (.str "ask") (.cons (.var 3) .nil)))) .skip) .skip) (.seq (.ifs (.cmp .eq (.var 2) (.int 1)) (.seq (.ret (.tup (.cons (.str "done") .nil))) .skip) .skip) (.seq (.ifs (.cmp .lt (.var 2) (.int 4)) (.seq (.ret (.tup (.cons (.str "see") (.cons (.var 3) .nil)))) .skip) .skip) (.seq (.ret (.tup (.cons (.str "put") (.cons (.var 3) (.cons (.call 24 (.cons (.var 0) (.cons (.lst (.cons (.int 0) (.cons (.int 1) (.cons (.int 2) (.cons (.int 3) (.cons (.int 4) (.cons (.neg (.int 1)) (.cons (.neg (.int 1000)) (.cons (.int 1000) .nil))))))))) .nil))) .nil))))) .skip))))))
def d30 : Df := { name := "_law_any_step", ps := ["d", "names"], N := ["d", "names", "kind", "word"], b := b30 }
/-- _law_paper_pool -/
def b31 : S := (.seq (.asg 3 (.lst (.cons (.tup (.cons (.str "ask") (.cons (.ix (.var 1) (.int 1)) .nil))) (.cons (.tup (.cons (.str "ask") (.cons (.ix (.var 1) (.int 2)) .nil))) (.cons (.tup (.cons (.str "see") (.cons (.ix (.var 2) (.int 0)) (.cons (.neg (.int 1)) .nil)))) (.cons (.tup (.cons (.str "see") (.cons (.ix (.var 2) (.int 0)) (.cons (.int 0) .nil)))) (.cons (.tup (.cons (.str "see") (.cons (.ix (.var 2) (.int 1)) (.cons (.int 0) .nil)))) .nil))))))) (.seq (.asg 3 (.bin .add (.var 3) (.lst (.cons (.tup (.cons (.str "put") (.cons (.ix (.var 2) (.int 0)) (.cons (.int 0) .nil)))) (.cons (.tup (.cons (.str "put") (.cons (.ix (.var 2) (.int 0)) (.cons (.int 1) .nil)))) (.cons (.tup (.cons (.str "put") (.cons (.ix (.var 2) (.int 1)) (.cons (.int 0) .nil)))) (.cons (.tup (.cons (.str "see") (.cons (.ix (.var 1) (.int 1)) (.cons (.int 0) .nil)))) .nil))))))) (.seq (.asg 4 (.lst .nil)) (.seq (.for_ (.one 5) (.iRange (.int 7)) (.seq (.asg 6 (.lst .nil)) (.seq (.ifs (.ands (.cons (.var 4) (.cons (.cmp .ne (.call 23 (.cons (.var 0) (.cons (.int 3) .nil))) (.int 1)) .nil))) (.seq (.asg 6 (.blt .list (.cons (.ix (.call 24 (.cons (.var 0) (.cons (.var 4) .nil))) (.int 1)) .nil))) (.seq (.asg 6 (.slice (.var 6) .nil (.call 23 (.cons (.var 0) (.cons (.bin .add (.blt .len (.cons (.var 6) .nil)) (.int 1)) .nil))))) .skip)) .skip) (.seq (.for_ (.one 7) (.iRange (.call 23 (.cons (.var 0) (.cons (.int 5) .nil)))) (.seq (.expr (.mth .append (.var 6) (.cons (.call 24 (.cons (.var 0) (.cons (.var 3) .nil))) .nil))) .skip)) (.seq (.expr (.mth .append (.var 4) (.cons (.tup (.cons (.ix (.var 1) (.call 23 (.cons (.var 0) (.cons (.int 2) .nil)))) (.cons (.blt .tuple (.cons (.slice (.var 6) .nil (.int 15)) .nil)) .nil))) .nil))) .skip))))) (.seq (.ret (.var 4)) .skip)))))
def d31 : Df := { name := "_law_paper_pool", ps := ["d", "names", "files"], N := ["d", "names", "files", "events", "found", "k", "trace", "turn"], b := b31 }
/-- _law_next -/
def b32 : S := (.seq (.ifs (.cmp .gt (.blt .len (.cons (.var 1) .nil)) (.blt .len (.cons (.var 0) .nil))) (.seq (.ret .non) .skip) .skip) (.seq (.for_ (.one 2) (.iRange (.blt .len (.cons (.var 1) .nil))) (.seq (.ifs (.cmp .ne (.ix (.var 0) (.var 2)) (.ix (.var 1) (.var 2))) (.seq (.ret .non) .skip) .skip) .skip)) (.seq (.ifs (.cmp .eq (.blt .len (.cons (.var 1) .nil)) (.blt .len (.cons (.var 0) .nil))) (.seq (.ret (.tup (.cons (.str "done") .nil))) .skip) .skip) (.seq (.asg 3 (.ix (.var 0) (.blt .len (.cons (.var 1) .nil)))) (.seq (.ret (.ite (.cmp .eq (.ix (.var 3) (.int 0)) (.str "see")) (.tup (.cons (.str "see") (.cons (.ix (.var 3) (.int 1)) .nil))) (.var 3))) .skip)))))
def d32 : Df := { name := "_law_next", ps := ["trace", "events"], N := ["trace", "events", "k", "event"], b := b32 }
/-- _law_answer -/
def b33 : S := (.seq (.ifs (.notN (.ix (.var 0) (.int 2))) (.seq (.for_ (.one 3) (.iSeq (.ix (.var 0) (.int 2))) (.seq (.ifs (.ands (.cons (.cmp .eq (.ix (.var 3) (.int 0)) (.var 1)) (.cons (.cmp .eq (.ix (.var 3) (.int 1)) (.var 2)) .nil))) (.seq (.ret (.ix (.var 3) (.int 2))) .skip) .skip) .skip)) (.seq (.ret .non) .skip)) .skip) (.seq (.for_ (.one 4) (.iSeq (.ix (.var 0) (.int 1))) (.seq (.ifs (.cmp .eq (.ix (.var 4) (.int 0)) (.var 1)) (.seq (.asg 5 (.call 32 (.cons (.ix (.var 4) (.int 1)) (.cons (.var 2) .nil)))) (.seq (.ifs (.notN (.var 5)) (.seq (.ret (.var 5)) .skip) .skip) .skip)) .skip) .skip)) (.seq (.ret .non) .skip)))
def d33 : Df := { name := "_law_answer", ps := ["model", "rule", "events"], N := ["model", "rule", "events", "entry", "paper", "step"], b := b33 }
/-- _law_put -/
def b34 : S := (.seq (.ifs (.cmp .isin (.var 1) (.ix (.var 0) (.int 1))) (.seq (.ret (.bl false)) .skip) .skip) (.seq (.expr (.mth .append (.ix (.var 0) (.int 1)) (.cons (.var 1) .nil))) (.seq (.ifs (.cmp .gt (.blt .len (.cons (.ix (.var 0) (.int 1)) .nil)) (.ix (.var 0) (.int 0))) (.seq (.expr (.mth .popAt (.ix (.var 0) (.int 1)) (.cons (.int 0) .nil))) .skip) .skip) (.seq (.ret (.bl true)) .skip))))
def d34 : Df := { name := "_law_put", ps := ["model", "paper"], N := ["model", "paper"], b := b34 }
/-- _law_events -/
def b35 : S := (.seq (.asg 2 (.call 24 (.cons (.var 0) (.cons (.var 1) .nil)))) (.seq (.asg 3 (.call 24 (.cons (.var 0) (.cons (.var 1) .nil)))) (.seq (.asg 4 (.slice (.ix (.var 2) (.int 1)) .nil (.call 23 (.cons (.var 0) (.cons (.bin .add (.blt .len (.cons (.ix (.var 2) (.int 1)) .nil)) (.int 1)) .nil))))) (.seq (.asg 5 (.call 23 (.cons (.var 0) (.cons (.int 6) .nil)))) (.seq (.ifs (.cmp .eq (.var 5) (.int 1)) (.seq (.ret (.tup (.cons (.ix (.var 3) (.int 0)) (.cons (.var 4) .nil)))) .skip) .skip) (.seq (.ifs (.ands (.cons (.cmp .eq (.var 5) (.int 2)) (.cons (.cmp .gt (.blt .len (.cons (.var 4) .nil)) (.int 0)) .nil))) (.seq (.ret (.tup (.cons (.ix (.var 2) (.int 0)) (.cons (.bin .add (.slice (.var 4) .nil (.bin .sub (.blt .len (.cons (.var 4) .nil)) (.int 1))) (.slice (.ix (.var 3) (.int 1)) .nil (.int 1))) .nil)))) .skip) .skip) (.seq (.ifs (.cmp .eq (.var 5) (.int 3)) (.seq (.ret (.tup (.cons (.ix (.var 2) (.int 0)) (.cons (.bin .add (.ix (.var 2) (.int 1)) (.slice (.ix (.var 3) (.int 1)) .nil (.int 1))) .nil)))) .skip) .skip) (.seq (.ret (.tup (.cons (.ix (.var 2) (.int 0)) (.cons (.var 4) .nil)))) .skip))))))))
def d35 : Df := { name := "_law_events", ps := ["d", "pool"], N := ["d", "pool", "paper", "other", "events", "way"], b := b35 }
/-- _law_table -/
def b36 : S := (.seq (.asg 3 (.lst .nil)) (.seq (.for_ (.one 4) (.iRange (.call 23 (.cons (.var 0) (.cons (.int 5) .nil)))) (.seq (.asgT [5, 6] (.call 35 (.cons (.var 0) (.cons (.var 1) .nil)))) (.seq (.expr (.mth .append (.var 3) (.cons (.tup (.cons (.var 5) (.cons (.var 6) (.cons (.call 30 (.cons (.var 0) (.cons (.var 2) .nil))) .nil)))) .nil))) .skip))) (.seq (.ifs (.ands (.cons (.var 3) (.cons (.cmp .eq (.call 23 (.cons (.var 0) (.cons (.int 2) .nil))) (.int 1)) .nil))) (.seq (.asg 7 (.ix (.var 3) (.int 0))) (.seq (.expr (.mth .append (.var 3) (.cons (.tup (.cons (.ix (.var 7) (.int 0)) (.cons (.ix (.var 7) (.int 1)) (.cons (.call 30 (.cons (.var 0) (.cons (.var 2) .nil))) .nil)))) .nil))) .skip)) .skip) (.seq (.ret (.blt .tuple (.cons (.var 3) .nil))) .skip))))
def d36 : Df := { name := "_law_table", ps := ["d", "pool", "names"], N := ["d", "pool", "names", "found", "k", "rule", "events", "first"], b := b36 }
/-- _law_answers_hold -/
def b37 : S := (.seq (.ret (.call 29 (.cons (.meth "Cache" "answer" 8 (.var 0) (.cons (.var 2) (.cons (.var 3) .nil))) (.cons (.call 33 (.cons (.var 1) (.cons (.var 2) (.cons (.var 3) .nil)))) .nil)))) .skip)
def d37 : Df := { name := "_law_answers_hold", ps := ["cache", "model", "rule", "events"], N := ["cache", "model", "rule", "events"], b := b37 }
/-- _law_state_holds -/
def b38 : S := (.seq (.ifs (.not (.call 29 (.cons (.prop "Cache" "papers" 5 (.var 0)) (.cons (.blt .tuple (.cons (.ix (.var 1) (.int 1)) .nil)) .nil)))) (.seq (.ret (.bl false)) .skip) .skip) (.seq (.ret (.call 29 (.cons (.prop "Cache" "honest" 6 (.var 0)) (.cons (.isN (.ix (.var 1) (.int 2))) .nil)))) .skip))
def d38 : Df := { name := "_law_state_holds", ps := ["cache", "model"], N := ["cache", "model"], b := b38 }
/-- _law_filled -/
def b39 : S := (.seq (.for_ (.one 4) (.iRange (.int 62)) (.seq (.asg 5 (.tup (.cons (.var 3) (.cons (.tup (.cons (.tup (.cons (.str "see") (.cons (.ix (.var 0) (.bin .mod (.blt .int (.cons (.var 4) .nil)) (.int 20))) (.cons (.bin .sub (.bin .fdiv (.var 4) (.int 20)) (.int 1)) .nil)))) .nil)) .nil)))) (.seq (.ifs (.not (.call 29 (.cons (.meth "Cache" "put" 7 (.var 2) (.cons (.var 5) .nil)) (.cons (.call 34 (.cons (.var 1) (.cons (.var 5) .nil))) .nil)))) (.seq (.ret (.bl false)) .skip) .skip) .skip))) (.seq (.ret (.call 38 (.cons (.var 2) (.cons (.var 1) .nil)))) .skip))
def d39 : Df := { name := "_law_filled", ps := ["files", "model", "cache", "name"], N := ["files", "model", "cache", "name", "k", "paper"], b := b39 }
/-- _law_follow_holds -/
def b40 : S := (.seq (.asg 5 (.lst .nil)) (.seq (.for_ (.one 6) (.iSeq (.ix (.var 2) (.int 1))) (.seq (.asg 7 (.ite (.cmp .eq (.ix (.var 6) (.int 0)) (.var 3)) (.call 32 (.cons (.ix (.var 6) (.int 1)) (.cons (.var 4) .nil))) .non)) (.seq (.ifs (.ands (.cons (.notN (.var 7)) (.cons (.cmp .notin (.var 7) (.var 5)) .nil))) (.seq (.expr (.mth .append (.var 5) (.cons (.var 7) .nil))) .skip) .skip) .skip))) (.seq (.ifs (.not (.call 29 (.cons (.meth "Shelf" "follow" 17 (.var 0) (.cons (.var 3) (.cons (.var 4) .nil))) (.cons (.blt .tuple (.cons (.blt .sorted (.cons (.var 5) .nil)) .nil)) .nil)))) (.seq (.ret (.bl false)) .skip) .skip) (.seq (.asg 8 (.meth "Cache" "answer" 8 (.var 1) (.cons (.var 3) (.cons (.var 4) .nil)))) (.seq (.ret (.ors (.cons (.notN (.ix (.var 2) (.int 2))) (.cons (.ands (.cons (.isN (.var 8)) (.cons (.not (.var 5)) .nil))) (.cons (.cmp .isin (.var 8) (.var 5)) .nil))))) .skip)))))
def d40 : Df := { name := "_law_follow_holds", ps := ["shelf", "cache", "model", "rule", "events"], N := ["shelf", "cache", "model", "rule", "events", "found", "paper", "step", "told"], b := b40 }
/-- _law_all_hold -/
def b41 : S := (.seq (.asg 3 (.comp [("cache", 4)] (.one 4) (.iSeq (.var 0)) .nil (.make "Shelf" 13 (.cons (.prop "Cache" "papers" 5 (.var 4)) .nil)))) (.seq (.for_ (.one 5) (.iSeq (.var 2)) (.seq (.for_ (.one 6) (.iRange (.bin .add (.blt .len (.cons (.ix (.var 5) (.int 1)) .nil)) (.int 1))) (.seq (.for_ (.one 7) (.iRange (.int 2)) (.seq (.asg 8 (.slice (.ix (.var 5) (.int 1)) .nil (.var 6))) (.seq (.ifs (.not (.call 37 (.cons (.ix (.var 0) (.var 7)) (.cons (.ix (.var 1) (.var 7)) (.cons (.ix (.var 5) (.int 0)) (.cons (.var 8) .nil)))))) (.seq (.ret (.bl false)) .skip) .skip) (.seq (.ifs (.not (.call 40 (.cons (.ix (.var 3) (.var 7)) (.cons (.ix (.var 0) (.var 7)) (.cons (.ix (.var 1) (.var 7)) (.cons (.ix (.var 5) (.int 0)) (.cons (.var 8) .nil))))))) (.seq (.ret (.bl false)) .skip) .skip) (.seq (.asg 8 (.bin .add (.var 8) (.tup (.cons (.tup (.cons (.str "put") (.cons (.str "nobody") (.cons (.int 0) .nil)))) .nil)))) (.seq (.ifs (.not (.call 37 (.cons (.ix (.var 0) (.var 7)) (.cons (.ix (.var 1) (.var 7)) (.cons (.ix (.ix (.var 2) (.bin .mod (.blt .int (.cons (.var 6) .nil)) (.int 7))) (.int 0)) (.cons (.var 8) .nil)))))) (.seq (.ret (.bl false)) .skip) .skip) .skip)))))) .skip)) .skip)) (.seq (.ret (.bl true)) .skip)))
def d41 : Df := { name := "_law_all_hold", ps := ["caches", "models", "pool"], N := ["caches", "models", "pool", "shelves", "cache", "paper", "many", "at", "events"], b := b41 }
/-- law -/
def b42 : S := (.seq (.asg 1 (.call 22 (.cons (.var 0) .nil))) (.seq (.asg 2 (.call 26 (.cons (.var 1) (.cons (.call 28 .nil) .nil)))) (.seq (.asg 3 (.call 26 (.cons (.var 1) (.cons (.call 27 .nil) .nil)))) (.seq (.asg 4 (.call 31 (.cons (.var 1) (.cons (.var 2) (.cons (.var 3) .nil))))) (.seq (.asg 5 (.bin .add (.bin .add (.slice (.var 2) .nil (.int 3)) (.slice (.var 3) .nil (.int 3))) (.lst (.cons (.str "else") (.cons (.str "") (.cons (.str "Ab") (.cons (.str "ninechars") .nil))))))) (.seq (.asg 6 (.lst (.cons (.lst (.cons (.bin .add (.int 1) (.call 23 (.cons (.var 1) (.cons (.int 4) .nil)))) (.cons (.lst .nil) (.cons .non .nil)))) (.cons (.lst (.cons (.bin .add (.int 1) (.call 23 (.cons (.var 1) (.cons (.int 8) .nil)))) (.cons (.lst .nil) (.cons .non .nil)))) .nil)))) (.seq (.asg 7 (.call 25 (.cons (.var 1) (.cons (.int 9) .nil)))) (.seq (.ifs (.var 7) (.seq (.setIx (.var 6) (.int 1) (.lst (.cons (.bin .add (.int 58) (.call 23 (.cons (.var 1) (.cons (.int 3) .nil)))) (.cons (.lst .nil) (.cons .non .nil))))) .skip) .skip) (.seq (.asg 8 (.lst (.cons (.make "Cache" 4 (.cons (.ix (.ix (.var 6) (.int 0)) (.int 0)) .nil)) (.cons (.make "Cache" 4 (.cons (.ix (.ix (.var 6) (.int 1)) (.int 0)) .nil)) .nil)))) (.seq (.ifs (.ands (.cons (.var 7) (.cons (.not (.call 39 (.cons (.var 3) (.cons (.ix (.var 6) (.int 1)) (.cons (.ix (.var 8) (.int 1)) (.cons (.ix (.var 2) (.int 0)) .nil)))))) .nil))) (.seq (.ret (.bl false)) .skip) .skip) (.seq (.for_ (.one 9) (.iRange (.bin .add (.int 8) (.call 23 (.cons (.var 1) (.cons (.int 8) .nil))))) (.seq (.asg 10 (.call 23 (.cons (.var 1) (.cons (.int 2) .nil)))) (.seq (.ifs (.call 25 (.cons (.var 1) (.cons (.int 9) .nil))) (.seq (.asg 11 (.call 36 (.cons (.var 1) (.cons (.var 4) (.cons (.var 5) .nil))))) (.seq (.setIx (.ix (.var 6) (.var 10)) (.int 2) (.var 11)) (.seq (.ifs (.notN (.meth "Cache" "corrupt" 9 (.ix (.var 8) (.var 10)) (.cons (.var 11) .nil))) (.seq (.ret (.bl false)) .skip) .skip) .skip))) (.seq (.asg 12 (.call 24 (.cons (.var 1) (.cons (.var 4) .nil)))) (.seq (.ifs (.not (.call 29 (.cons (.meth "Cache" "put" 7 (.ix (.var 8) (.var 10)) (.cons (.var 12) .nil)) (.cons (.call 34 (.cons (.ix (.var 6) (.var 10)) (.cons (.var 12) .nil))) .nil)))) (.seq (.ret (.bl false)) .skip) .skip) .skip))) (.seq (.asgT [13, 14] (.call 35 (.cons (.var 1) (.cons (.var 4) .nil)))) (.seq (.for_ (.one 15) (.iRange (.int 2)) (.seq (.ifs (.not (.call 38 (.cons (.ix (.var 8) (.var 15)) (.cons (.ix (.var 6) (.var 15)) .nil)))) (.seq (.ret (.bl false)) .skip) .skip) (.seq (.ifs (.not (.call 37 (.cons (.ix (.var 8) (.var 15)) (.cons (.ix (.var 6) (.var 15)) (.cons (.var 13) (.cons (.var 14) .nil)))))) (.seq (.ret (.bl false)) .skip) .skip) .skip))) .skip))))) (.seq (.ret (.call 41 (.cons (.var 8) (.cons (.var 6) (.cons (.var 4) .nil))))) .skip))))))))))))
def d42 : Df := { name := "law", ps := ["script"], N := ["script", "d", "names", "files", "pool", "words", "models", "is_large", "caches", "turn", "at", "table", "paper", "rule", "events", "k"], b := b42 }
def T : List Df := [d0, d1, d2, d3, d4, d5, d6, d7, d8, d9, d10, d11, d12, d13, d14, d15, d16, d17, d18, d19, d20, d21, d22, d23, d24, d25, d26, d27, d28, d29, d30, d31, d32, d33, d34, d35, d36, d37, d38, d39, d40, d41, d42]
def G : Pg := ⟨T, [⟨"Cache", some 4, ["_room", "_papers", "_table"], [("put", 7), ("answer", 8), ("corrupt", 9)], [("papers", 5), ("honest", 6)]⟩, ⟨"Shelf", some 13, ["_row", "_held"], [("many", 15), ("of", 16), ("follow", 17), ("without", 18), ("__contains__", 19), ("__iter__", 20), ("__add__", 21)], [("papers", 14)]⟩], [], []⟩
def top (i : Nat) : Stmt := PySem.Challenge.pw_holdstill_k71_caches_kept.main.body.getD i (.Pass ⟨0, 0, 0, 0⟩)
def sts : List Stmt := [(top 1), (top 2), (top 3), (top 4), (inCls (top 6) 0), (inCls (top 6) 1), (inCls (top 6) 2), (inCls (top 6) 3), (inCls (top 6) 4), (inCls (top 6) 5), (top 8), (top 9), (top 10), (inCls (top 11) 0), (inCls (top 11) 1), (inCls (top 11) 2), (inCls (top 11) 3), (inCls (top 11) 4), (inCls (top 11) 5), (inCls (top 11) 6), (inCls (top 11) 7), (inCls (top 11) 8), (top 13), (top 14), (top 15), (top 16), (top 17), (top 18), (top 19), (top 20), (top 21), (top 22), (top 23), (top 24), (top 25), (top 26), (top 27), (top 28), (top 29), (top 30), (top 31), (top 32), (top 33)]
theorem ck0 : (nameOf (top 1) = d0.name) ∧ ckF G d0 (top 1) = true := by decide +kernel
theorem bd0 : BindP d0.name d0.qual (top 1) d0.ps := fun _ _ _ _ _ _ us hl => match us, hl with | [_], _ => rfl
theorem ck1 : (nameOf (top 2) = d1.name) ∧ ckF G d1 (top 2) = true := by decide +kernel
theorem bd1 : BindP d1.name d1.qual (top 2) d1.ps := fun _ _ _ _ _ _ us hl => match us, hl with | [_, _], _ => rfl
theorem ck2 : (nameOf (top 3) = d2.name) ∧ ckF G d2 (top 3) = true := by decide +kernel
theorem bd2 : BindP d2.name d2.qual (top 3) d2.ps := fun _ _ _ _ _ _ us hl => match us, hl with | [_, _, _], _ => rfl
theorem ck3 : (nameOf (top 4) = d3.name) ∧ ckF G d3 (top 4) = true := by decide +kernel
theorem bd3 : BindP d3.name d3.qual (top 4) d3.ps := fun _ _ _ _ _ _ us hl => match us, hl with | [_, _, _], _ => rfl
theorem ck4 : (nameOf (inCls (top 6) 0) = d4.name) ∧ ckF G d4 (inCls (top 6) 0) = true := by decide +kernel
theorem bd4 : BindP d4.name d4.qual (inCls (top 6) 0) d4.ps := fun _ _ _ _ _ _ us hl => match us, hl with | [_, _], _ => rfl
theorem ck5 : (nameOf (inCls (top 6) 1) = d5.name) ∧ ckF G d5 (inCls (top 6) 1) = true := by decide +kernel
theorem bd5 : BindP d5.name d5.qual (inCls (top 6) 1) d5.ps := fun _ _ _ _ _ _ us hl => match us, hl with | [_], _ => rfl
theorem ck6 : (nameOf (inCls (top 6) 2) = d6.name) ∧ ckF G d6 (inCls (top 6) 2) = true := by decide +kernel
theorem bd6 : BindP d6.name d6.qual (inCls (top 6) 2) d6.ps := fun _ _ _ _ _ _ us hl => match us, hl with | [_], _ => rfl
theorem ck7 : (nameOf (inCls (top 6) 3) = d7.name) ∧ ckF G d7 (inCls (top 6) 3) = true := by decide +kernel
theorem bd7 : BindP d7.name d7.qual (inCls (top 6) 3) d7.ps := fun _ _ _ _ _ _ us hl => match us, hl with | [_, _], _ => rfl
theorem ck8 : (nameOf (inCls (top 6) 4) = d8.name) ∧ ckF G d8 (inCls (top 6) 4) = true := by decide +kernel
theorem bd8 : BindP d8.name d8.qual (inCls (top 6) 4) d8.ps := fun _ _ _ _ _ _ us hl => match us, hl with | [_, _, _], _ => rfl
theorem ck9 : (nameOf (inCls (top 6) 5) = d9.name) ∧ ckF G d9 (inCls (top 6) 5) = true := by decide +kernel
theorem bd9 : BindP d9.name d9.qual (inCls (top 6) 5) d9.ps := fun _ _ _ _ _ _ us hl => match us, hl with | [_, _], _ => rfl
theorem ck10 : (nameOf (top 8) = d10.name) ∧ ckF G d10 (top 8) = true := by decide +kernel
theorem bd10 : BindP d10.name d10.qual (top 8) d10.ps := fun _ _ _ _ _ _ us hl => match us, hl with | [_], _ => rfl
theorem ck11 : (nameOf (top 9) = d11.name) ∧ ckF G d11 (top 9) = true := by decide +kernel
theorem bd11 : BindP d11.name d11.qual (top 9) d11.ps := fun _ _ _ _ _ _ us hl => match us, hl with | [_, _], _ => rfl
theorem ck12 : (nameOf (top 10) = d12.name) ∧ ckF G d12 (top 10) = true := by decide +kernel
theorem bd12 : BindP d12.name d12.qual (top 10) d12.ps := fun _ _ _ _ _ _ us hl => match us, hl with | [_, _], _ => rfl
theorem ck13 : (nameOf (inCls (top 11) 0) = d13.name) ∧ ckF G d13 (inCls (top 11) 0) = true := by decide +kernel
theorem bd13 : BindP d13.name d13.qual (inCls (top 11) 0) d13.ps := fun _ _ _ _ _ _ us hl => match us, hl with | [_, _], _ => rfl
theorem ck14 : (nameOf (inCls (top 11) 1) = d14.name) ∧ ckF G d14 (inCls (top 11) 1) = true := by decide +kernel
theorem bd14 : BindP d14.name d14.qual (inCls (top 11) 1) d14.ps := fun _ _ _ _ _ _ us hl => match us, hl with | [_], _ => rfl
theorem ck15 : (nameOf (inCls (top 11) 2) = d15.name) ∧ ckF G d15 (inCls (top 11) 2) = true := by decide +kernel
theorem bd15 : BindP d15.name d15.qual (inCls (top 11) 2) d15.ps := fun _ _ _ _ _ _ us hl => match us, hl with | [_], _ => rfl
theorem ck16 : (nameOf (inCls (top 11) 3) = d16.name) ∧ ckF G d16 (inCls (top 11) 3) = true := by decide +kernel
theorem bd16 : BindP d16.name d16.qual (inCls (top 11) 3) d16.ps := fun _ _ _ _ _ _ us hl => match us, hl with | [_, _], _ => rfl
theorem ck17 : (nameOf (inCls (top 11) 4) = d17.name) ∧ ckF G d17 (inCls (top 11) 4) = true := by decide +kernel
theorem bd17 : BindP d17.name d17.qual (inCls (top 11) 4) d17.ps := fun _ _ _ _ _ _ us hl => match us, hl with | [_, _, _], _ => rfl
theorem ck18 : (nameOf (inCls (top 11) 5) = d18.name) ∧ ckF G d18 (inCls (top 11) 5) = true := by decide +kernel
theorem bd18 : BindP d18.name d18.qual (inCls (top 11) 5) d18.ps := fun _ _ _ _ _ _ us hl => match us, hl with | [_, _], _ => rfl
theorem ck19 : (nameOf (inCls (top 11) 6) = d19.name) ∧ ckF G d19 (inCls (top 11) 6) = true := by decide +kernel
theorem bd19 : BindP d19.name d19.qual (inCls (top 11) 6) d19.ps := fun _ _ _ _ _ _ us hl => match us, hl with | [_, _], _ => rfl
theorem ck20 : (nameOf (inCls (top 11) 7) = d20.name) ∧ ckF G d20 (inCls (top 11) 7) = true := by decide +kernel
theorem bd20 : BindP d20.name d20.qual (inCls (top 11) 7) d20.ps := fun _ _ _ _ _ _ us hl => match us, hl with | [_], _ => rfl
theorem ck21 : (nameOf (inCls (top 11) 8) = d21.name) ∧ ckF G d21 (inCls (top 11) 8) = true := by decide +kernel
theorem bd21 : BindP d21.name d21.qual (inCls (top 11) 8) d21.ps := fun _ _ _ _ _ _ us hl => match us, hl with | [_, _], _ => rfl
theorem ck22 : (nameOf (top 13) = d22.name) ∧ ckF G d22 (top 13) = true := by decide +kernel
theorem bd22 : BindP d22.name d22.qual (top 13) d22.ps := fun _ _ _ _ _ _ us hl => match us, hl with | [_], _ => rfl
theorem ck23 : (nameOf (top 14) = d23.name) ∧ ckF G d23 (top 14) = true := by decide +kernel
theorem bd23 : BindP d23.name d23.qual (top 14) d23.ps := fun _ _ _ _ _ _ us hl => match us, hl with | [_, _], _ => rfl
theorem ck24 : (nameOf (top 15) = d24.name) ∧ ckF G d24 (top 15) = true := by decide +kernel
theorem bd24 : BindP d24.name d24.qual (top 15) d24.ps := fun _ _ _ _ _ _ us hl => match us, hl with | [_, _], _ => rfl
theorem ck25 : (nameOf (top 16) = d25.name) ∧ ckF G d25 (top 16) = true := by decide +kernel
theorem bd25 : BindP d25.name d25.qual (top 16) d25.ps := fun _ _ _ _ _ _ us hl => match us, hl with | [_, _], _ => rfl
theorem ck26 : (nameOf (top 17) = d26.name) ∧ ckF G d26 (top 17) = true := by decide +kernel
theorem bd26 : BindP d26.name d26.qual (top 17) d26.ps := fun _ _ _ _ _ _ us hl => match us, hl with | [_, _], _ => rfl
theorem ck27 : (nameOf (top 18) = d27.name) ∧ ckF G d27 (top 18) = true := by decide +kernel
theorem bd27 : BindP d27.name d27.qual (top 18) d27.ps := fun _ _ _ _ _ _ us hl => match us, hl with | [], _ => rfl
theorem ck28 : (nameOf (top 19) = d28.name) ∧ ckF G d28 (top 19) = true := by decide +kernel
theorem bd28 : BindP d28.name d28.qual (top 19) d28.ps := fun _ _ _ _ _ _ us hl => match us, hl with | [], _ => rfl
theorem ck29 : (nameOf (top 20) = d29.name) ∧ ckF G d29 (top 20) = true := by decide +kernel
theorem bd29 : BindP d29.name d29.qual (top 20) d29.ps := fun _ _ _ _ _ _ us hl => match us, hl with | [_, _], _ => rfl
theorem ck30 : (nameOf (top 21) = d30.name) ∧ ckF G d30 (top 21) = true := by decide +kernel
theorem bd30 : BindP d30.name d30.qual (top 21) d30.ps := fun _ _ _ _ _ _ us hl => match us, hl with | [_, _], _ => rfl
theorem ck31 : (nameOf (top 22) = d31.name) ∧ ckF G d31 (top 22) = true := by decide +kernel
theorem bd31 : BindP d31.name d31.qual (top 22) d31.ps := fun _ _ _ _ _ _ us hl => match us, hl with | [_, _, _], _ => rfl
theorem ck32 : (nameOf (top 23) = d32.name) ∧ ckF G d32 (top 23) = true := by decide +kernel
theorem bd32 : BindP d32.name d32.qual (top 23) d32.ps := fun _ _ _ _ _ _ us hl => match us, hl with | [_, _], _ => rfl
theorem ck33 : (nameOf (top 24) = d33.name) ∧ ckF G d33 (top 24) = true := by decide +kernel
theorem bd33 : BindP d33.name d33.qual (top 24) d33.ps := fun _ _ _ _ _ _ us hl => match us, hl with | [_, _, _], _ => rfl
theorem ck34 : (nameOf (top 25) = d34.name) ∧ ckF G d34 (top 25) = true := by decide +kernel
theorem bd34 : BindP d34.name d34.qual (top 25) d34.ps := fun _ _ _ _ _ _ us hl => match us, hl with | [_, _], _ => rfl
theorem ck35 : (nameOf (top 26) = d35.name) ∧ ckF G d35 (top 26) = true := by decide +kernel
theorem bd35 : BindP d35.name d35.qual (top 26) d35.ps := fun _ _ _ _ _ _ us hl => match us, hl with | [_, _], _ => rfl
theorem ck36 : (nameOf (top 27) = d36.name) ∧ ckF G d36 (top 27) = true := by decide +kernel
theorem bd36 : BindP d36.name d36.qual (top 27) d36.ps := fun _ _ _ _ _ _ us hl => match us, hl with | [_, _, _], _ => rfl
theorem ck37 : (nameOf (top 28) = d37.name) ∧ ckF G d37 (top 28) = true := by decide +kernel
theorem bd37 : BindP d37.name d37.qual (top 28) d37.ps := fun _ _ _ _ _ _ us hl => match us, hl with | [_, _, _, _], _ => rfl
theorem ck38 : (nameOf (top 29) = d38.name) ∧ ckF G d38 (top 29) = true := by decide +kernel
theorem bd38 : BindP d38.name d38.qual (top 29) d38.ps := fun _ _ _ _ _ _ us hl => match us, hl with | [_, _], _ => rfl
theorem ck39 : (nameOf (top 30) = d39.name) ∧ ckF G d39 (top 30) = true := by decide +kernel
theorem bd39 : BindP d39.name d39.qual (top 30) d39.ps := fun _ _ _ _ _ _ us hl => match us, hl with | [_, _, _, _], _ => rfl
theorem ck40 : (nameOf (top 31) = d40.name) ∧ ckF G d40 (top 31) = true := by decide +kernel
theorem bd40 : BindP d40.name d40.qual (top 31) d40.ps := fun _ _ _ _ _ _ us hl => match us, hl with | [_, _, _, _, _], _ => rfl
theorem ck41 : (nameOf (top 32) = d41.name) ∧ ckF G d41 (top 32) = true := by decide +kernel
theorem bd41 : BindP d41.name d41.qual (top 32) d41.ps := fun _ _ _ _ _ _ us hl => match us, hl with | [_, _, _], _ => rfl
theorem ck42 : (nameOf (top 33) = d42.name) ∧ ckF G d42 (top 33) = true := by decide +kernel
theorem bd42 : BindP d42.name d42.qual (top 33) d42.ps := fun _ _ _ _ _ _ us hl => match us, hl with | [_], _ => rfl
theorem ck : ckT G sts = true := by
  unfold ckT
  rw [Bool.and_eq_true]
  refine ⟨by decide, ?_⟩
  show (List.zip [d0, d1, d2, d3, d4, d5, d6, d7, d8, d9, d10, d11, d12, d13, d14, d15, d16, d17, d18, d19, d20, d21, d22, d23, d24, d25, d26, d27, d28, d29, d30, d31, d32, d33, d34, d35, d36, d37, d38, d39, d40, d41, d42] [(top 1), (top 2), (top 3), (top 4), (inCls (top 6) 0), (inCls (top 6) 1), (inCls (top 6) 2), (inCls (top 6) 3), (inCls (top 6) 4), (inCls (top 6) 5), (top 8), (top 9), (top 10), (inCls (top 11) 0), (inCls (top 11) 1), (inCls (top 11) 2), (inCls (top 11) 3), (inCls (top 11) 4), (inCls (top 11) 5), (inCls (top 11) 6), (inCls (top 11) 7), (inCls (top 11) 8), (top 13), (top 14), (top 15), (top 16), (top 17), (top 18), (top 19), (top 20), (top 21), (top 22), (top 23), (top 24), (top 25), (top 26), (top 27), (top 28), (top 29), (top 30), (top 31), (top 32), (top 33)]).all _ = true
  simp only [List.zip_cons_cons, List.zip_nil_right, List.all_cons, List.all_nil, Bool.and_true, Bool.and_eq_true, decide_eq_true_eq]
  exact ⟨⟨ck0.1, ck0.2⟩, ⟨ck1.1, ck1.2⟩, ⟨ck2.1, ck2.2⟩, ⟨ck3.1, ck3.2⟩, ⟨ck4.1, ck4.2⟩, ⟨ck5.1, ck5.2⟩, ⟨ck6.1, ck6.2⟩, ⟨ck7.1, ck7.2⟩, ⟨ck8.1, ck8.2⟩, ⟨ck9.1, ck9.2⟩, ⟨ck10.1, ck10.2⟩, ⟨ck11.1, ck11.2⟩, ⟨ck12.1, ck12.2⟩, ⟨ck13.1, ck13.2⟩, ⟨ck14.1, ck14.2⟩, ⟨ck15.1, ck15.2⟩, ⟨ck16.1, ck16.2⟩, ⟨ck17.1, ck17.2⟩, ⟨ck18.1, ck18.2⟩, ⟨ck19.1, ck19.2⟩, ⟨ck20.1, ck20.2⟩, ⟨ck21.1, ck21.2⟩, ⟨ck22.1, ck22.2⟩, ⟨ck23.1, ck23.2⟩, ⟨ck24.1, ck24.2⟩, ⟨ck25.1, ck25.2⟩, ⟨ck26.1, ck26.2⟩, ⟨ck27.1, ck27.2⟩, ⟨ck28.1, ck28.2⟩, ⟨ck29.1, ck29.2⟩, ⟨ck30.1, ck30.2⟩, ⟨ck31.1, ck31.2⟩, ⟨ck32.1, ck32.2⟩, ⟨ck33.1, ck33.2⟩, ⟨ck34.1, ck34.2⟩, ⟨ck35.1, ck35.2⟩, ⟨ck36.1, ck36.2⟩, ⟨ck37.1, ck37.2⟩, ⟨ck38.1, ck38.2⟩, ⟨ck39.1, ck39.2⟩, ⟨ck40.1, ck40.2⟩, ⟨ck41.1, ck41.2⟩, ⟨ck42.1, ck42.2⟩⟩
theorem bd : ∀ (i : Nat) (d : Df) (st : Stmt), G.T[i]? = some d → sts[i]? = some st → BindP d.name d.qual st d.ps := fun i d st h1 h2 => by
  match i, h1, h2 with
  | 0, h1, h2 => exact by cases h1; cases h2; exact bd0
  | 1, h1, h2 => exact by cases h1; cases h2; exact bd1
  | 2, h1, h2 => exact by cases h1; cases h2; exact bd2
  | 3, h1, h2 => exact by cases h1; cases h2; exact bd3
  | 4, h1, h2 => exact by cases h1; cases h2; exact bd4
  | 5, h1, h2 => exact by cases h1; cases h2; exact bd5
  | 6, h1, h2 => exact by cases h1; cases h2; exact bd6
  | 7, h1, h2 => exact by cases h1; cases h2; exact bd7
  | 8, h1, h2 => exact by cases h1; cases h2; exact bd8
  | 9, h1, h2 => exact by cases h1; cases h2; exact bd9
  | 10, h1, h2 => exact by cases h1; cases h2; exact bd10
  | 11, h1, h2 => exact by cases h1; cases h2; exact bd11
  | 12, h1, h2 => exact by cases h1; cases h2; exact bd12
  | 13, h1, h2 => exact by cases h1; cases h2; exact bd13
  | 14, h1, h2 => exact by cases h1; cases h2; exact bd14
  | 15, h1, h2 => exact by cases h1; cases h2; exact bd15
  | 16, h1, h2 => exact by cases h1; cases h2; exact bd16
  | 17, h1, h2 => exact by cases h1; cases h2; exact bd17
  | 18, h1, h2 => exact by cases h1; cases h2; exact bd18
  | 19, h1, h2 => exact by cases h1; cases h2; exact bd19
  | 20, h1, h2 => exact by cases h1; cases h2; exact bd20
  | 21, h1, h2 => exact by cases h1; cases h2; exact bd21
  | 22, h1, h2 => exact by cases h1; cases h2; exact bd22
  | 23, h1, h2 => exact by cases h1; cases h2; exact bd23
  | 24, h1, h2 => exact by cases h1; cases h2; exact bd24
  | 25, h1, h2 => exact by cases h1; cases h2; exact bd25
  | 26, h1, h2 => exact by cases h1; cases h2; exact bd26
  | 27, h1, h2 => exact by cases h1; cases h2; exact bd27
  | 28, h1, h2 => exact by cases h1; cases h2; exact bd28
  | 29, h1, h2 => exact by cases h1; cases h2; exact bd29
  | 30, h1, h2 => exact by cases h1; cases h2; exact bd30
  | 31, h1, h2 => exact by cases h1; cases h2; exact bd31
  | 32, h1, h2 => exact by cases h1; cases h2; exact bd32
  | 33, h1, h2 => exact by cases h1; cases h2; exact bd33
  | 34, h1, h2 => exact by cases h1; cases h2; exact bd34
  | 35, h1, h2 => exact by cases h1; cases h2; exact bd35
  | 36, h1, h2 => exact by cases h1; cases h2; exact bd36
  | 37, h1, h2 => exact by cases h1; cases h2; exact bd37
  | 38, h1, h2 => exact by cases h1; cases h2; exact bd38
  | 39, h1, h2 => exact by cases h1; cases h2; exact bd39
  | 40, h1, h2 => exact by cases h1; cases h2; exact bd40
  | 41, h1, h2 => exact by cases h1; cases h2; exact bd41
  | 42, h1, h2 => exact by cases h1; cases h2; exact bd42
  | i + 43, h1, _ => cases h1
theorem cs0 {k : Nat} {us : List U} {M : Hm} {Q : QU} (hl : us.length = 1) (h : wS (Cs T k) b0 ⟨fun _ M1 => ∃ M2, Sub M2 M1 ∧ Q .non M2, fun u M1 => ∃ M2, Sub M2 M1 ∧ Q u M2, fun _ _ => False, fun _ _ => False⟩ (startU 1 us) M) : Cs T (k + 1) 0 us M Q := ⟨d0, rfl, hl, h⟩
theorem cs1 {k : Nat} {us : List U} {M : Hm} {Q : QU} (hl : us.length = 2) (h : wS (Cs T k) b1 ⟨fun _ M1 => ∃ M2, Sub M2 M1 ∧ Q .non M2, fun u M1 => ∃ M2, Sub M2 M1 ∧ Q u M2, fun _ _ => False, fun _ _ => False⟩ (startU 3 us) M) : Cs T (k + 1) 1 us M Q := ⟨d1, rfl, hl, h⟩
theorem cs2 {k : Nat} {us : List U} {M : Hm} {Q : QU} (hl : us.length = 3) (h : wS (Cs T k) b2 ⟨fun _ M1 => ∃ M2, Sub M2 M1 ∧ Q .non M2, fun u M1 => ∃ M2, Sub M2 M1 ∧ Q u M2, fun _ _ => False, fun _ _ => False⟩ (startU 6 us) M) : Cs T (k + 1) 2 us M Q := ⟨d2, rfl, hl, h⟩
theorem cs3 {k : Nat} {us : List U} {M : Hm} {Q : QU} (hl : us.length = 3) (h : wS (Cs T k) b3 ⟨fun _ M1 => ∃ M2, Sub M2 M1 ∧ Q .non M2, fun u M1 => ∃ M2, Sub M2 M1 ∧ Q u M2, fun _ _ => False, fun _ _ => False⟩ (startU 6 us) M) : Cs T (k + 1) 3 us M Q := ⟨d3, rfl, hl, h⟩
theorem cs4 {k : Nat} {us : List U} {M : Hm} {Q : QU} (hl : us.length = 2) (h : wS (Cs T k) b4 ⟨fun _ M1 => ∃ M2, Sub M2 M1 ∧ Q .non M2, fun u M1 => ∃ M2, Sub M2 M1 ∧ Q u M2, fun _ _ => False, fun _ _ => False⟩ (startU 2 us) M) : Cs T (k + 1) 4 us M Q := ⟨d4, rfl, hl, h⟩
theorem cs5 {k : Nat} {us : List U} {M : Hm} {Q : QU} (hl : us.length = 1) (h : wS (Cs T k) b5 ⟨fun _ M1 => ∃ M2, Sub M2 M1 ∧ Q .non M2, fun u M1 => ∃ M2, Sub M2 M1 ∧ Q u M2, fun _ _ => False, fun _ _ => False⟩ (startU 1 us) M) : Cs T (k + 1) 5 us M Q := ⟨d5, rfl, hl, h⟩
theorem cs6 {k : Nat} {us : List U} {M : Hm} {Q : QU} (hl : us.length = 1) (h : wS (Cs T k) b6 ⟨fun _ M1 => ∃ M2, Sub M2 M1 ∧ Q .non M2, fun u M1 => ∃ M2, Sub M2 M1 ∧ Q u M2, fun _ _ => False, fun _ _ => False⟩ (startU 1 us) M) : Cs T (k + 1) 6 us M Q := ⟨d6, rfl, hl, h⟩
theorem cs7 {k : Nat} {us : List U} {M : Hm} {Q : QU} (hl : us.length = 2) (h : wS (Cs T k) b7 ⟨fun _ M1 => ∃ M2, Sub M2 M1 ∧ Q .non M2, fun u M1 => ∃ M2, Sub M2 M1 ∧ Q u M2, fun _ _ => False, fun _ _ => False⟩ (startU 2 us) M) : Cs T (k + 1) 7 us M Q := ⟨d7, rfl, hl, h⟩
theorem cs8 {k : Nat} {us : List U} {M : Hm} {Q : QU} (hl : us.length = 3) (h : wS (Cs T k) b8 ⟨fun _ M1 => ∃ M2, Sub M2 M1 ∧ Q .non M2, fun u M1 => ∃ M2, Sub M2 M1 ∧ Q u M2, fun _ _ => False, fun _ _ => False⟩ (startU 3 us) M) : Cs T (k + 1) 8 us M Q := ⟨d8, rfl, hl, h⟩
theorem cs9 {k : Nat} {us : List U} {M : Hm} {Q : QU} (hl : us.length = 2) (h : wS (Cs T k) b9 ⟨fun _ M1 => ∃ M2, Sub M2 M1 ∧ Q .non M2, fun u M1 => ∃ M2, Sub M2 M1 ∧ Q u M2, fun _ _ => False, fun _ _ => False⟩ (startU 2 us) M) : Cs T (k + 1) 9 us M Q := ⟨d9, rfl, hl, h⟩
theorem cs10 {k : Nat} {us : List U} {M : Hm} {Q : QU} (hl : us.length = 1) (h : wS (Cs T k) b10 ⟨fun _ M1 => ∃ M2, Sub M2 M1 ∧ Q .non M2, fun u M1 => ∃ M2, Sub M2 M1 ∧ Q u M2, fun _ _ => False, fun _ _ => False⟩ (startU 3 us) M) : Cs T (k + 1) 10 us M Q := ⟨d10, rfl, hl, h⟩
theorem cs11 {k : Nat} {us : List U} {M : Hm} {Q : QU} (hl : us.length = 2) (h : wS (Cs T k) b11 ⟨fun _ M1 => ∃ M2, Sub M2 M1 ∧ Q .non M2, fun u M1 => ∃ M2, Sub M2 M1 ∧ Q u M2, fun _ _ => False, fun _ _ => False⟩ (startU 2 us) M) : Cs T (k + 1) 11 us M Q := ⟨d11, rfl, hl, h⟩
theorem cs12 {k : Nat} {us : List U} {M : Hm} {Q : QU} (hl : us.length = 2) (h : wS (Cs T k) b12 ⟨fun _ M1 => ∃ M2, Sub M2 M1 ∧ Q .non M2, fun u M1 => ∃ M2, Sub M2 M1 ∧ Q u M2, fun _ _ => False, fun _ _ => False⟩ (startU 3 us) M) : Cs T (k + 1) 12 us M Q := ⟨d12, rfl, hl, h⟩
theorem cs13 {k : Nat} {us : List U} {M : Hm} {Q : QU} (hl : us.length = 2) (h : wS (Cs T k) b13 ⟨fun _ M1 => ∃ M2, Sub M2 M1 ∧ Q .non M2, fun u M1 => ∃ M2, Sub M2 M1 ∧ Q u M2, fun _ _ => False, fun _ _ => False⟩ (startU 3 us) M) : Cs T (k + 1) 13 us M Q := ⟨d13, rfl, hl, h⟩
theorem cs14 {k : Nat} {us : List U} {M : Hm} {Q : QU} (hl : us.length = 1) (h : wS (Cs T k) b14 ⟨fun _ M1 => ∃ M2, Sub M2 M1 ∧ Q .non M2, fun u M1 => ∃ M2, Sub M2 M1 ∧ Q u M2, fun _ _ => False, fun _ _ => False⟩ (startU 1 us) M) : Cs T (k + 1) 14 us M Q := ⟨d14, rfl, hl, h⟩
theorem cs15 {k : Nat} {us : List U} {M : Hm} {Q : QU} (hl : us.length = 1) (h : wS (Cs T k) b15 ⟨fun _ M1 => ∃ M2, Sub M2 M1 ∧ Q .non M2, fun u M1 => ∃ M2, Sub M2 M1 ∧ Q u M2, fun _ _ => False, fun _ _ => False⟩ (startU 1 us) M) : Cs T (k + 1) 15 us M Q := ⟨d15, rfl, hl, h⟩
theorem cs16 {k : Nat} {us : List U} {M : Hm} {Q : QU} (hl : us.length = 2) (h : wS (Cs T k) b16 ⟨fun _ M1 => ∃ M2, Sub M2 M1 ∧ Q .non M2, fun u M1 => ∃ M2, Sub M2 M1 ∧ Q u M2, fun _ _ => False, fun _ _ => False⟩ (startU 3 us) M) : Cs T (k + 1) 16 us M Q := ⟨d16, rfl, hl, h⟩
theorem cs17 {k : Nat} {us : List U} {M : Hm} {Q : QU} (hl : us.length = 3) (h : wS (Cs T k) b17 ⟨fun _ M1 => ∃ M2, Sub M2 M1 ∧ Q .non M2, fun u M1 => ∃ M2, Sub M2 M1 ∧ Q u M2, fun _ _ => False, fun _ _ => False⟩ (startU 6 us) M) : Cs T (k + 1) 17 us M Q := ⟨d17, rfl, hl, h⟩
theorem cs18 {k : Nat} {us : List U} {M : Hm} {Q : QU} (hl : us.length = 2) (h : wS (Cs T k) b18 ⟨fun _ M1 => ∃ M2, Sub M2 M1 ∧ Q .non M2, fun u M1 => ∃ M2, Sub M2 M1 ∧ Q u M2, fun _ _ => False, fun _ _ => False⟩ (startU 3 us) M) : Cs T (k + 1) 18 us M Q := ⟨d18, rfl, hl, h⟩
theorem cs19 {k : Nat} {us : List U} {M : Hm} {Q : QU} (hl : us.length = 2) (h : wS (Cs T k) b19 ⟨fun _ M1 => ∃ M2, Sub M2 M1 ∧ Q .non M2, fun u M1 => ∃ M2, Sub M2 M1 ∧ Q u M2, fun _ _ => False, fun _ _ => False⟩ (startU 2 us) M) : Cs T (k + 1) 19 us M Q := ⟨d19, rfl, hl, h⟩
theorem cs20 {k : Nat} {us : List U} {M : Hm} {Q : QU} (hl : us.length = 1) (h : wS (Cs T k) b20 ⟨fun _ M1 => ∃ M2, Sub M2 M1 ∧ Q .non M2, fun u M1 => ∃ M2, Sub M2 M1 ∧ Q u M2, fun _ _ => False, fun _ _ => False⟩ (startU 1 us) M) : Cs T (k + 1) 20 us M Q := ⟨d20, rfl, hl, h⟩
theorem cs21 {k : Nat} {us : List U} {M : Hm} {Q : QU} (hl : us.length = 2) (h : wS (Cs T k) b21 ⟨fun _ M1 => ∃ M2, Sub M2 M1 ∧ Q .non M2, fun u M1 => ∃ M2, Sub M2 M1 ∧ Q u M2, fun _ _ => False, fun _ _ => False⟩ (startU 2 us) M) : Cs T (k + 1) 21 us M Q := ⟨d21, rfl, hl, h⟩
theorem cs22 {k : Nat} {us : List U} {M : Hm} {Q : QU} (hl : us.length = 1) (h : wS (Cs T k) b22 ⟨fun _ M1 => ∃ M2, Sub M2 M1 ∧ Q .non M2, fun u M1 => ∃ M2, Sub M2 M1 ∧ Q u M2, fun _ _ => False, fun _ _ => False⟩ (startU 2 us) M) : Cs T (k + 1) 22 us M Q := ⟨d22, rfl, hl, h⟩
theorem cs23 {k : Nat} {us : List U} {M : Hm} {Q : QU} (hl : us.length = 2) (h : wS (Cs T k) b23 ⟨fun _ M1 => ∃ M2, Sub M2 M1 ∧ Q .non M2, fun u M1 => ∃ M2, Sub M2 M1 ∧ Q u M2, fun _ _ => False, fun _ _ => False⟩ (startU 5 us) M) : Cs T (k + 1) 23 us M Q := ⟨d23, rfl, hl, h⟩
theorem cs24 {k : Nat} {us : List U} {M : Hm} {Q : QU} (hl : us.length = 2) (h : wS (Cs T k) b24 ⟨fun _ M1 => ∃ M2, Sub M2 M1 ∧ Q .non M2, fun u M1 => ∃ M2, Sub M2 M1 ∧ Q u M2, fun _ _ => False, fun _ _ => False⟩ (startU 2 us) M) : Cs T (k + 1) 24 us M Q := ⟨d24, rfl, hl, h⟩
theorem cs25 {k : Nat} {us : List U} {M : Hm} {Q : QU} (hl : us.length = 2) (h : wS (Cs T k) b25 ⟨fun _ M1 => ∃ M2, Sub M2 M1 ∧ Q .non M2, fun u M1 => ∃ M2, Sub M2 M1 ∧ Q u M2, fun _ _ => False, fun _ _ => False⟩ (startU 2 us) M) : Cs T (k + 1) 25 us M Q := ⟨d25, rfl, hl, h⟩
theorem cs26 {k : Nat} {us : List U} {M : Hm} {Q : QU} (hl : us.length = 2) (h : wS (Cs T k) b26 ⟨fun _ M1 => ∃ M2, Sub M2 M1 ∧ Q .non M2, fun u M1 => ∃ M2, Sub M2 M1 ∧ Q u M2, fun _ _ => False, fun _ _ => False⟩ (startU 5 us) M) : Cs T (k + 1) 26 us M Q := ⟨d26, rfl, hl, h⟩
theorem cs27 {k : Nat} {us : List U} {M : Hm} {Q : QU} (hl : us.length = 0) (h : wS (Cs T k) b27 ⟨fun _ M1 => ∃ M2, Sub M2 M1 ∧ Q .non M2, fun u M1 => ∃ M2, Sub M2 M1 ∧ Q u M2, fun _ _ => False, fun _ _ => False⟩ (startU 0 us) M) : Cs T (k + 1) 27 us M Q := ⟨d27, rfl, hl, h⟩
theorem cs28 {k : Nat} {us : List U} {M : Hm} {Q : QU} (hl : us.length = 0) (h : wS (Cs T k) b28 ⟨fun _ M1 => ∃ M2, Sub M2 M1 ∧ Q .non M2, fun u M1 => ∃ M2, Sub M2 M1 ∧ Q u M2, fun _ _ => False, fun _ _ => False⟩ (startU 0 us) M) : Cs T (k + 1) 28 us M Q := ⟨d28, rfl, hl, h⟩
theorem cs29 {k : Nat} {us : List U} {M : Hm} {Q : QU} (hl : us.length = 2) (h : wS (Cs T k) b29 ⟨fun _ M1 => ∃ M2, Sub M2 M1 ∧ Q .non M2, fun u M1 => ∃ M2, Sub M2 M1 ∧ Q u M2, fun _ _ => False, fun _ _ => False⟩ (startU 3 us) M) : Cs T (k + 1) 29 us M Q := ⟨d29, rfl, hl, h⟩
theorem cs30 {k : Nat} {us : List U} {M : Hm} {Q : QU} (hl : us.length = 2) (h : wS (Cs T k) b30 ⟨fun _ M1 => ∃ M2, Sub M2 M1 ∧ Q .non M2, fun u M1 => ∃ M2, Sub M2 M1 ∧ Q u M2, fun _ _ => False, fun _ _ => False⟩ (startU 4 us) M) : Cs T (k + 1) 30 us M Q := ⟨d30, rfl, hl, h⟩
theorem cs31 {k : Nat} {us : List U} {M : Hm} {Q : QU} (hl : us.length = 3) (h : wS (Cs T k) b31 ⟨fun _ M1 => ∃ M2, Sub M2 M1 ∧ Q .non M2, fun u M1 => ∃ M2, Sub M2 M1 ∧ Q u M2, fun _ _ => False, fun _ _ => False⟩ (startU 8 us) M) : Cs T (k + 1) 31 us M Q := ⟨d31, rfl, hl, h⟩
theorem cs32 {k : Nat} {us : List U} {M : Hm} {Q : QU} (hl : us.length = 2) (h : wS (Cs T k) b32 ⟨fun _ M1 => ∃ M2, Sub M2 M1 ∧ Q .non M2, fun u M1 => ∃ M2, Sub M2 M1 ∧ Q u M2, fun _ _ => False, fun _ _ => False⟩ (startU 4 us) M) : Cs T (k + 1) 32 us M Q := ⟨d32, rfl, hl, h⟩
theorem cs33 {k : Nat} {us : List U} {M : Hm} {Q : QU} (hl : us.length = 3) (h : wS (Cs T k) b33 ⟨fun _ M1 => ∃ M2, Sub M2 M1 ∧ Q .non M2, fun u M1 => ∃ M2, Sub M2 M1 ∧ Q u M2, fun _ _ => False, fun _ _ => False⟩ (startU 6 us) M) : Cs T (k + 1) 33 us M Q := ⟨d33, rfl, hl, h⟩
theorem cs34 {k : Nat} {us : List U} {M : Hm} {Q : QU} (hl : us.length = 2) (h : wS (Cs T k) b34 ⟨fun _ M1 => ∃ M2, Sub M2 M1 ∧ Q .non M2, fun u M1 => ∃ M2, Sub M2 M1 ∧ Q u M2, fun _ _ => False, fun _ _ => False⟩ (startU 2 us) M) : Cs T (k + 1) 34 us M Q := ⟨d34, rfl, hl, h⟩
theorem cs35 {k : Nat} {us : List U} {M : Hm} {Q : QU} (hl : us.length = 2) (h : wS (Cs T k) b35 ⟨fun _ M1 => ∃ M2, Sub M2 M1 ∧ Q .non M2, fun u M1 => ∃ M2, Sub M2 M1 ∧ Q u M2, fun _ _ => False, fun _ _ => False⟩ (startU 6 us) M) : Cs T (k + 1) 35 us M Q := ⟨d35, rfl, hl, h⟩
theorem cs36 {k : Nat} {us : List U} {M : Hm} {Q : QU} (hl : us.length = 3) (h : wS (Cs T k) b36 ⟨fun _ M1 => ∃ M2, Sub M2 M1 ∧ Q .non M2, fun u M1 => ∃ M2, Sub M2 M1 ∧ Q u M2, fun _ _ => False, fun _ _ => False⟩ (startU 8 us) M) : Cs T (k + 1) 36 us M Q := ⟨d36, rfl, hl, h⟩
theorem cs37 {k : Nat} {us : List U} {M : Hm} {Q : QU} (hl : us.length = 4) (h : wS (Cs T k) b37 ⟨fun _ M1 => ∃ M2, Sub M2 M1 ∧ Q .non M2, fun u M1 => ∃ M2, Sub M2 M1 ∧ Q u M2, fun _ _ => False, fun _ _ => False⟩ (startU 4 us) M) : Cs T (k + 1) 37 us M Q := ⟨d37, rfl, hl, h⟩
theorem cs38 {k : Nat} {us : List U} {M : Hm} {Q : QU} (hl : us.length = 2) (h : wS (Cs T k) b38 ⟨fun _ M1 => ∃ M2, Sub M2 M1 ∧ Q .non M2, fun u M1 => ∃ M2, Sub M2 M1 ∧ Q u M2, fun _ _ => False, fun _ _ => False⟩ (startU 2 us) M) : Cs T (k + 1) 38 us M Q := ⟨d38, rfl, hl, h⟩
theorem cs39 {k : Nat} {us : List U} {M : Hm} {Q : QU} (hl : us.length = 4) (h : wS (Cs T k) b39 ⟨fun _ M1 => ∃ M2, Sub M2 M1 ∧ Q .non M2, fun u M1 => ∃ M2, Sub M2 M1 ∧ Q u M2, fun _ _ => False, fun _ _ => False⟩ (startU 6 us) M) : Cs T (k + 1) 39 us M Q := ⟨d39, rfl, hl, h⟩
theorem cs40 {k : Nat} {us : List U} {M : Hm} {Q : QU} (hl : us.length = 5) (h : wS (Cs T k) b40 ⟨fun _ M1 => ∃ M2, Sub M2 M1 ∧ Q .non M2, fun u M1 => ∃ M2, Sub M2 M1 ∧ Q u M2, fun _ _ => False, fun _ _ => False⟩ (startU 9 us) M) : Cs T (k + 1) 40 us M Q := ⟨d40, rfl, hl, h⟩
theorem cs41 {k : Nat} {us : List U} {M : Hm} {Q : QU} (hl : us.length = 3) (h : wS (Cs T k) b41 ⟨fun _ M1 => ∃ M2, Sub M2 M1 ∧ Q .non M2, fun u M1 => ∃ M2, Sub M2 M1 ∧ Q u M2, fun _ _ => False, fun _ _ => False⟩ (startU 9 us) M) : Cs T (k + 1) 41 us M Q := ⟨d41, rfl, hl, h⟩
theorem cs42 {k : Nat} {us : List U} {M : Hm} {Q : QU} (hl : us.length = 1) (h : wS (Cs T k) b42 ⟨fun _ M1 => ∃ M2, Sub M2 M1 ∧ Q .non M2, fun u M1 => ∃ M2, Sub M2 M1 ∧ Q u M2, fun _ _ => False, fun _ _ => False⟩ (startU 16 us) M) : Cs T (k + 1) 42 us M Q := ⟨d42, rfl, hl, h⟩
/-! ### the head -/
abbrev R : PySem.W.OpenRow := PySem.W.OpenLaw.row PySem.Challenge.rw_holdstill_k71_caches_kept
abbrev hk : PySem.W.Hook := hookX 7 G sts
def ob (s : PySem.W.SharedT) : AlX := obsXG 7 G (HandSHeadRun.getT s)
theorem ob_eq (s : PySem.W.SharedT) : ob s = hk.obs s.abs := obsXG_eq (HandSHeadRun.getT_eq s)
def loose : List PySem.Str := (["step_of", "step_after", "first_step", "table_step", "Cache", "each_once", "begins_with", "step_behind", "Shelf", "_law_begin", "_law_draw", "_law_pick", "_law_rare", "_law_shuffled", "_law_files", "_law_rules", "_law_same", "_law_any_step", "_law_paper_pool", "_law_next", "_law_answer", "_law_put", "_law_events", "_law_table", "_law_answers_hold", "_law_state_holds", "_law_filled", "_law_follow_holds", "_law_all_hold"] : List String).map Str.ofString
theorem run (w : World) : HandSHeadRun.RunEq R (PySem.W.view R.prog [33]) hk ob 4000 loose w := by
  intro os
  kernel_rfl
end K71

set_option maxHeartbeats 400000
/-! traces, bodies; what their readers tell -/
namespace Pl
open PySem L2
/-- puts_before: trace, place, found, event -/
def B_puts_before : S := (.seq (.asg 2 (.dnew false)) (.seq (.for_ (.one 3) (.iSeq (.slice (.var 0) .nil (.var 1))) (.seq (.ifs (.cmp .eq (.ix (.var 3) (.int 0)) (.str "put")) (.seq (.setIx (.var 2) (.ix (.var 3) (.int 1)) (.ix (.var 3) (.int 2))) .skip) .skip) .skip)) (.seq (.ret (.var 2)) .skip)))
/-- lay_of: trace, found, file -/
def B_lay_of (puts_before : Nat) : S := (.seq (.asg 1 (.call puts_before (.cons (.var 0) (.cons (.blt .len (.cons (.var 0) .nil)) .nil)))) (.seq (.ret (.blt .tuple (.cons (.comp [("file", 2)] (.one 2) (.iKeys (.var 1)) .nil (.tup (.cons (.var 2) (.cons (.ix (.var 1) (.var 2)) .nil)))) .nil))) .skip))
/-- asks_of: trace, found, event -/
def B_asks_of : S := (.seq (.asg 1 (.dnew false)) (.seq (.for_ (.one 2) (.iSeq (.var 0)) (.seq (.ifs (.cmp .eq (.ix (.var 2) (.int 0)) (.str "ask")) (.seq (.setIx (.var 1) (.ix (.var 2) (.int 1)) (.bl true)) .skip) .skip) .skip)) (.seq (.ret (.blt .tuple (.cons (.blt .list (.cons (.var 1) .nil)) .nil))) .skip)))
/-- path_step: body, event -/
def B_path_step : S := (.seq (.ifs (.ors (.cons (.not (.isinst (.var 1) "tuple")) (.cons (.cmp .eq (.blt .len (.cons (.var 1) .nil)) (.int 0)) (.cons (.cmp .ne (.ix (.var 0) (.int 0)) (.ix (.var 1) (.int 0))) .nil)))) (.seq (.ret .non) .skip) .skip) (.seq (.ifs (.cmp .eq (.ix (.var 0) (.int 0)) (.str "see")) (.seq (.ifs (.ors (.cons (.cmp .ne (.blt .len (.cons (.var 1) .nil)) (.int 3)) (.cons (.cmp .ne (.ix (.var 1) (.int 1)) (.ix (.var 0) (.int 1))) (.cons (.not (.isinst (.ix (.var 1) (.int 2)) "int")) .nil)))) (.seq (.ret .non) .skip) .skip) (.seq (.ifs (.ors (.cons (.isinst (.ix (.var 1) (.int 2)) "bool") (.cons (.not (.chain .le .lt (.int 0) (.bin .add (.ix (.var 1) (.int 2)) (.int 1)) (.blt .len (.cons (.ix (.var 0) (.int 2)) .nil)))) .nil))) (.seq (.ret .non) .skip) .skip) (.seq (.ret (.ix (.ix (.var 0) (.int 2)) (.bin .add (.ix (.var 1) (.int 2)) (.int 1)))) .skip))) .skip) (.seq (.ifs (.cmp .eq (.ix (.var 0) (.int 0)) (.str "ask")) (.seq (.ret (.ite (.ands (.cons (.cmp .eq (.blt .len (.cons (.var 1) .nil)) (.int 2)) (.cons (.cmp .eq (.ix (.var 1) (.int 1)) (.ix (.var 0) (.int 1))) .nil))) (.ix (.var 0) (.int 2)) .non)) .skip) .skip) (.seq (.ifs (.cmp .eq (.ix (.var 0) (.int 0)) (.str "put")) (.seq (.ifs (.ors (.cons (.cmp .ne (.blt .len (.cons (.var 1) .nil)) (.int 3)) (.cons (.isinst (.ix (.var 1) (.int 2)) "bool") .nil))) (.seq (.ret .non) .skip) .skip) (.seq (.ret (.ite (.ands (.cons (.cmp .eq (.ix (.var 1) (.int 1)) (.ix (.var 0) (.int 1))) (.cons (.cmp .eq (.ix (.var 1) (.int 2)) (.ix (.var 0) (.int 2))) .nil))) (.ix (.var 0) (.int 3)) .non)) .skip)) .skip) (.seq (.ret .non) .skip)))))
/-- walks: body, trace, at, event -/
def B_walks (path_step : Nat) : S := (.seq (.ifs (.not (.isinst (.var 1) "tuple")) (.seq (.ret (.bl false)) .skip) .skip) (.seq (.asg 2 (.var 0)) (.seq (.for_ (.one 3) (.iSeq (.var 1)) (.seq (.asg 2 (.call path_step (.cons (.var 2) (.cons (.var 3) .nil)))) (.seq (.ifs (.isN (.var 2)) (.seq (.ret (.bl false)) .skip) .skip) .skip))) (.seq (.ret (.cmp .eq (.ix (.var 2) (.int 0)) (.str "done"))) .skip))))
/-- _law_lay: trace, files, last, event, file -/
def B_law_lay : S := (.seq (.asg 1 (.lst .nil)) (.seq (.asg 2 (.dnew false)) (.seq (.for_ (.one 3) (.iSeq (.var 0)) (.seq (.ifs (.cmp .eq (.ix (.var 3) (.int 0)) (.str "put")) (.seq (.ifs (.cmp .notin (.ix (.var 3) (.int 1)) (.var 1)) (.seq (.expr (.mth .append (.var 1) (.cons (.ix (.var 3) (.int 1)) .nil))) .skip) .skip) (.seq (.setIx (.var 2) (.ix (.var 3) (.int 1)) (.ix (.var 3) (.int 2))) .skip)) .skip) .skip)) (.seq (.ret (.blt .tuple (.cons (.comp [("file", 4)] (.one 4) (.iSeq (.var 1)) .nil (.tup (.cons (.var 4) (.cons (.ix (.var 2) (.var 4)) .nil)))) .nil))) .skip))))
/-- _law_asks: trace, found, event -/
def B_law_asks : S := (.seq (.asg 1 (.lst .nil)) (.seq (.for_ (.one 2) (.iSeq (.var 0)) (.seq (.ifs (.ands (.cons (.cmp .eq (.ix (.var 2) (.int 0)) (.str "ask")) (.cons (.cmp .notin (.ix (.var 2) (.int 1)) (.var 1)) .nil))) (.seq (.expr (.mth .append (.var 1) (.cons (.ix (.var 2) (.int 1)) .nil))) .skip) .skip) .skip)) (.seq (.ret (.blt .tuple (.cons (.var 1) .nil))) .skip)))
/-- _law_walks: body, trace, at, event -/
def B_law_walks : S := (.seq (.asg 2 (.var 0)) (.seq (.for_ (.one 3) (.iSeq (.var 1)) (.seq (.ifs (.ors (.cons (.cmp .ne (.ix (.var 2) (.int 0)) (.ix (.var 3) (.int 0))) (.cons (.cmp .ne (.ix (.var 2) (.int 1)) (.ix (.var 3) (.int 1))) .nil))) (.seq (.ret (.bl false)) .skip) .skip) (.seq (.ifs (.cmp .eq (.ix (.var 2) (.int 0)) (.str "see")) (.seq (.asg 2 (.ix (.ix (.var 2) (.int 2)) (.bin .add (.ix (.var 3) (.int 2)) (.int 1)))) .skip) (.seq (.ifs (.cmp .eq (.ix (.var 2) (.int 0)) (.str "put")) (.seq (.ifs (.cmp .ne (.ix (.var 2) (.int 2)) (.ix (.var 3) (.int 2))) (.seq (.ret (.bl false)) .skip) .skip) (.seq (.asg 2 (.ix (.var 2) (.int 3))) .skip)) (.seq (.asg 2 (.ix (.var 2) (.int 2))) .skip)) .skip)) .skip))) (.seq (.ret (.cmp .eq (.ix (.var 2) (.int 0)) (.str "done"))) .skip)))
inductive Ev where | ask (r : Str) | put (f : Str) (c : Int) | see (f : Str) (c : Int)
def encE : Ev → U
  | .ask r => .tup [.str "ask", .str r]
  | .put f c => .tup [.str "put", .str f, .int c]
  | .see f c => .tup [.str "see", .str f, .int c]
def Ev.ok : Ev → Prop
  | .ask r => okS r = true
  | .put f _ => okS f = true
  | .see f _ => okS f = true
def putsM (es : List Ev) : List (U × U) := es.foldl (fun ks e => match e with | .put f c => dput ks (.str f) (.int c) | _ => ks) []
theorem putsM_snoc (es : List Ev) (e : Ev) : putsM (es ++ [e]) = match e with | .put f c => dput (putsM es) (.str f) (.int c) | _ => putsM es := by
  unfold putsM
  rw [List.foldl_append]
  rfl
theorem putsM_len (es : List Ev) : (putsM es).length ≤ es.length := by
  induction es using snocs with
  | h0 => exact Nat.le_refl _
  | h1 es e ih =>
    rw [putsM_snoc, List.length_append]
    cases e with
    | put f c => have := dput_len (putsM es) (.str f) (.int c); simp; omega
    | _ => simp; omega
theorem putsM_nodup (es : List Ev) : ((putsM es).map (·.1)).Nodup := by
  induction es using snocs with
  | h0 => exact List.nodup_nil
  | h1 es e ih =>
    rw [putsM_snoc]
    cases e with
    | put f c => exact dput_nodup ih
    | _ => exact ih
theorem putsM_mem {es : List Ev} {p : U × U} (h : p ∈ putsM es) : ∃ f c, Ev.put f c ∈ es ∧ p = (.str f, .int c) := by
  induction es using snocs with
  | h0 => cases h
  | h1 es e ih =>
    rw [putsM_snoc] at h
    cases e with
    | put f c =>
      rcases dput_mem h with h | h
      · obtain ⟨f, c, h1, h2⟩ := ih h
        exact ⟨f, c, List.mem_append_left _ h1, h2⟩
      · exact ⟨f, c, List.mem_append_right _ (List.mem_singleton.mpr rfl), h⟩
    | _ =>
      obtain ⟨f, c, h1, h2⟩ := ih h
      exact ⟨f, c, List.mem_append_left _ h1, h2⟩
theorem puts_ok {C : CE} {nx bk ct : SU → Hm → Prop} {rt : QU} {M : Hm} {es : List Ev} {n : Nat} (hl : es.length < LIM) (hq : ∀ p, M p = none → rt (.ref p) (um M p (.dct false false (putsM (es.take n))))) :
    wS C B_puts_before ⟨nx, rt, bk, ct⟩ (startU 4 [.tup (es.map encE), .int n]) M := by
  unfold B_puts_before
  (repeat decreasing_trivial_pre_omega)
  intro p hp
  (repeat decreasing_trivial_pre_omega)
  rw [cutU_take, ← List.map_take]
  refine forL_by (fun don rest σ M' => (∃ u, σ = [some (.tup (es.map encE)), some (.int n), some (.ref p), u]) ∧ M' = um M p (.dct false false (putsM don))) (es.take n) ⟨⟨_, rfl⟩, rfl⟩ ?_ ?_
  · intro don x rest σ M' k e ⟨⟨u, e1⟩, e2⟩ hk
    subst e1 e2
    have hlen : (putsM don).length < LIM := by
      have h1 := putsM_len don
      have h2 : don.length ≤ (es.take n).length := by rw [← e, List.length_append]; omega
      rw [List.length_take] at h2
      omega
    cases x <;> simp only [encE] <;> (repeat decreasing_trivial_pre_omega)
    · exact hk _ _ trivial ⟨⟨_, rfl⟩, by rw [putsM_snoc]⟩
    · refine st_dct um_same rfl hlen ?_
      (repeat decreasing_trivial_pre_omega)
      exact hk _ _ trivial ⟨⟨_, rfl⟩, by rw [putsM_snoc, um_um]⟩
    · exact hk _ _ trivial ⟨⟨_, rfl⟩, by rw [putsM_snoc]⟩
  · intro σ M' ⟨⟨u, e1⟩, e2⟩
    subst e1 e2
    (repeat decreasing_trivial_pre_omega)
    exact hq p hp
def PutsC (C : CE) (f : Nat) : Prop := ∀ (M : Hm) (es : List Ev) (n : Nat) (Q : QU), es.length < LIM → (∀ p, M p = none → Q (.ref p) (um M p (.dct false false (putsM (es.take n))))) → C f [.tup (es.map encE), .int n] M Q
def pairU (p : U × U) : U := .tup [p.1, p.2]
def layU (es : List Ev) : U := .tup ((putsM es).map pairU)
theorem lay_ok {C : CE} {f : Nat} (hp : PutsC C f) {nx bk ct : SU → Hm → Prop} {rt : QU} {M : Hm} {es : List Ev} (hl : es.length < LIM) (hq : ∀ M', Sub M M' → rt (layU es) M') :
    wS C (B_lay_of f) ⟨nx, rt, bk, ct⟩ (startU 3 [.tup (es.map encE)]) M := by
  unfold B_lay_of
  (repeat decreasing_trivial_pre_omega)
  rw [List.length_map]
  refine hp _ _ _ _ hl fun p hp => ?_
  rw [List.take_length]
  (repeat decreasing_trivial_pre_omega)
  refine w_keys rfl um_same ?_
  rw [um_um]
  have hlen := putsM_len es
  refine compL_by (enc := fun p : U × U => p.1) (fun don rest acc M' => M' = um M p (.dct true false (putsM es)) ∧ acc = don.map pairU) (putsM es) ⟨rfl, rfl⟩ ?_ ?_
  · intro don x rest acc M' k e ⟨e1, e2⟩ hk
    subst e1 e2
    have hx : x ∈ putsM es := by rw [← e]; simp
    obtain ⟨g, c, _, ex⟩ := putsM_mem hx
    have hf := dfind_mem (putsM_nodup es) hx
    subst ex
    (repeat decreasing_trivial_pre_omega)
    refine x_dct um_same rfl hf ?_
    (repeat decreasing_trivial_pre_omega)
    refine hk _ _ um_same (fun _ => ?_) ⟨rfl, by simp [pairU]⟩
    have : (putsM es).length = don.length + rest.length + 1 := by rw [← e]; simp; omega
    rw [List.length_map]
    omega
  · intro acc M' ⟨e1, e2⟩
    subst e1 e2
    refine ⟨um_same, fun q hq0 => ?_⟩
    (repeat decreasing_trivial_pre_omega)
    refine hq _ ?_
    rw [um_um] at hq0 ⊢
    exact sub_um (sub_um (Sub.refl _) hp) (um_none hq0)
end Pl

set_option maxHeartbeats 400000
/-! the laws' names and orders -/
namespace Pl
open PySem L2
/-- _law_rare: d, many -/
def B_law_rare (law_draw : Nat) : S := (.seq (.ret (.cmp .eq (.call law_draw (.cons (.var 0) (.cons (.var 1) .nil))) (.bin .fdiv (.var 1) (.int 2)))) .skip)
/-- _law_shuffled: d, row, left, found, k -/
def B_law_shuffled (law_draw : Nat) : S := (.seq (.asg 2 (.blt .list (.cons (.var 1) .nil))) (.seq (.asg 3 (.lst .nil)) (.seq (.for_ (.one 4) (.iRange (.blt .len (.cons (.var 2) .nil))) (.seq (.expr (.mth .append (.var 3) (.cons (.mth .popAt (.var 2) (.cons (.call law_draw (.cons (.var 0) (.cons (.blt .len (.cons (.var 2) .nil)) .nil))) .nil)) .nil))) .skip)) (.seq (.ret (.var 3)) .skip))))
/-- _law_files:  -/
def B_law_files : S := (.seq (.ret (.mth .split (.str "x y z lib gen conf objs tag page table o hdr mainfile ver docs w zz linkmap au cc") (.cons (.str " ") .nil))) .skip)
/-- _law_rules:  -/
def B_law_rules : S := (.seq (.ret (.mth .split (.str "r q p all link comp lexer bind pack test goal x lastrule u v deep") (.cons (.str " ") .nil))) .skip)
theorem rare_ok {C : CE} {fd : Nat} (hd : DrawC C fd) {nx bk ct : SU → Hm → Prop} {rt : QU} {M : Hm} {p : Addr × Addr} {many : Nat} (d : Dr M p) (h0 : 0 < many) (h1 : many < 1073741824)
    (hq : ∀ b M', Dr M' p → Fr p M M' → rt (.bl b) M') : wS C (B_law_rare fd) ⟨nx, rt, bk, ct⟩ (startU 2 [.ref p.1, .int many]) M := by
  unfold B_law_rare
  (repeat decreasing_trivial_pre_omega)
  refine hd.lt M p many _ d h0 h1 fun r M' hr d' fr => ?_
  (repeat decreasing_trivial_pre_omega)
  exact hq _ M' d' fr
def RareC (C : CE) (f : Nat) : Prop := ∀ (M : Hm) (p : Addr × Addr) (many : Nat) (Q : QU), Dr M p → 0 < many → many < 1073741824 → (∀ b M', Dr M' p → Fr p M M' → Q (.bl b) M') → C f [.ref p.1, .int many] M Q
/-- a list of names that is split -/
def NamesC (C : CE) (f : Nat) (P : Str → Prop) : Prop := ∀ (M : Hm) (Q : QU), (∀ (r : Addr) (l : List Str) M', Sub M M' → M r = none → M' r = some (.lst (l.map U.str)) → l ≠ [] → l.length ≤ 100 → (∀ x ∈ l, P x) → Q (.ref r) M') → C f [] M Q
theorem ixN_nat {n i : Nat} (h : i < n) : ixN n (i : Int) = some i := by
  unfold ixN
  rw [if_pos (by omega), if_pos (by omega), Int.toNat_natCast]
theorem eraseIdx_perm {α : Type} : ∀ (l : List α) (i : Nat) (h : i < l.length), (l[i] :: l.eraseIdx i).Perm l
  | [], i, h => by cases h
  | x :: xs, 0, _ => by simp
  | x :: xs, i + 1, h => by
    simp only [List.getElem_cons_succ, List.eraseIdx_cons_succ]
    exact (List.Perm.swap x (xs[i]'(by simpa using h)) (xs.eraseIdx i)).trans ((eraseIdx_perm xs i (by simpa using h)).cons x)
/-- what is shuffled is a list: in some order -/
theorem shuffled_ok {C : CE} {fd : Nat} (hd : DrawC C fd) {nx bk ct : SU → Hm → Prop} {rt : QU} {M : Hm} {p : Addr × Addr} {r : Addr} {us : List U} (d : Dr M p) (hr : M r = some (.lst us)) (hl : us.length < 100000)
    (hq : ∀ q ws M', ws.Perm us → Dr M' p → Fr p M M' → q ≠ p.1 → q ≠ p.2 → M q = none → M' q = some (.lst ws) → rt (.ref q) M') : wS C (B_law_shuffled fd) ⟨nx, rt, bk, ct⟩ (startU 5 [.ref p.1, .ref r]) M := by
  unfold B_law_shuffled
  (repeat decreasing_trivial_pre_omega)
  intro x hx
  have nx1 := d.ne hx
  have nx2 := d.ne2 hx
  (repeat decreasing_trivial_pre_omega)
  intro y hy
  have hyx : y ≠ x := um_noneN hy
  have hyM := um_none hy
  have ny1 := d.ne hyM
  have ny2 := d.ne2 hyM
  (repeat decreasing_trivial_pre_omega)
  refine ⟨by unfold LIM; omega, by unfold LIM; omega, ?_⟩
  rw [rngU_nat]
  refine forL_by (enc := fun i : Nat => U.int (i : Nat)) (fun don rest σ M' => ∃ u4 left found, σ = [some (.ref p.1), some (.ref r), some (.ref x), some (.ref y), u4] ∧ Dr M' p ∧ Fr p M M' ∧ M' x = some (.lst left) ∧ M' y = some (.lst found) ∧ left.length = rest.length ∧ (found ++ left).Perm us) (List.range us.length)
    ⟨_, us, [], rfl, (d.upd hx).upd hy, ((Fr.refl _ _).upd hx).upd hyM, um_old um_same hy, um_same, by rw [List.length_range], by simp⟩ ?_ ?_
  · intro don i rest σ M' k e ⟨u4, left, found, e1, e2, e3, e4, e5, e6, e7⟩ hk
    subst e1
    have hle : left.length ≤ us.length := by
      have := e7.length_eq
      rw [List.length_append] at this
      omega
    have hfl : found.length ≤ us.length := by
      have := e7.length_eq
      rw [List.length_append] at this
      omega
    have h0 : 0 < left.length := by rw [e6]; simp
    (repeat decreasing_trivial_pre_omega)
    refine hd.lt M' p left.length _ e2 h0 (by omega) fun j M2 hj d2 fr2 => ?_
    have e4' := fr2.at_ nx1 e4
    have e5' := fr2.at_ ny1 e5
    (repeat decreasing_trivial_pre_omega)
    refine m_popAt e4' (by unfold LIM; omega) (ixN_nat hj) (List.getElem?_eq_getElem hj) ?_
    (repeat decreasing_trivial_pre_omega)
    refine m_app (us := found) (um_oth hyx e5') (by unfold LIM; omega) ?_
    (repeat decreasing_trivial_pre_omega)
    refine hk _ _ trivial ⟨_, left.eraseIdx j, found ++ [left[j]], rfl, (d2.upd2 nx1 nx2).upd2 ny1 ny2, ((e3.trans fr2).upd hx).upd hyM, um_oth hyx.symm um_same, um_same, ?_, ?_⟩
    · rw [List.length_eraseIdx, if_pos hj, e6]; simp
    · refine List.Perm.trans ?_ e7
      rw [List.append_assoc]
      exact (eraseIdx_perm left j hj).append_left found
  · intro σ M' ⟨u4, left, found, e1, e2, e3, e4, e5, e6, e7⟩
    subst e1
    have hnil : left = [] := List.eq_nil_of_length_eq_zero e6
    subst hnil
    rw [List.append_nil] at e7
    (repeat decreasing_trivial_pre_omega)
    exact hq y found M' e7 e2 e3 ny1 ny2 hyM e5
end Pl

set_option maxHeartbeats 400000
/-! typed rows of entries; equal things; order -/
namespace Pl
open PySem L2
section
variable {α β : Type} [DecidableEq α]
def aget (ks : List (α × β)) (k : α) : Option β := (ks.find? fun p => decide (p.1 = k)).map (·.2)
def adrop (ks : List (α × β)) (k : α) : List (α × β) := ks.filter fun p => !decide (p.1 = k)
def aput (ks : List (α × β)) (k : α) (v : β) : List (α × β) := if (aget ks k).isSome = true then ks.map fun p => if p.1 = k then (p.1, v) else p else ks ++ [(k, v)]
theorem aget_nil (k : α) : aget ([] : List (α × β)) k = none := rfl
theorem aget_cons (p : α × β) (ks : List (α × β)) (k : α) : aget (p :: ks) k = if p.1 = k then some p.2 else aget ks k := by
  unfold aget
  rw [List.find?_cons]
  by_cases h : p.1 = k
  · simp [h]
  · simp [h]
theorem aget_isSome {ks : List (α × β)} {x : α} : (aget ks x).isSome = decide (x ∈ ks.map (·.1)) := by
  unfold aget
  rw [Option.isSome_map, Bool.eq_iff_iff, List.find?_isSome, decide_eq_true_eq, List.mem_map]
  constructor
  · rintro ⟨p, hp, e⟩; exact ⟨p, hp, of_decide_eq_true e⟩
  · rintro ⟨p, hp, e⟩; exact ⟨p, hp, decide_eq_true e⟩
theorem aget_none {ks : List (α × β)} {k : α} (h : aget ks k = none) : ∀ p ∈ ks, p.1 ≠ k := by
  induction ks with
  | nil => intro p hp; cases hp
  | cons q ks ih =>
    rw [aget_cons] at h
    split at h
    · cases h
    · rename_i e
      intro p hp
      rcases List.mem_cons.mp hp with hp | hp
      · rw [hp]; exact e
      · exact ih h p hp
theorem adrop_none {ks : List (α × β)} {k : α} (h : aget ks k = none) : adrop ks k = ks :=
  List.filter_eq_self.mpr fun p hp => by rw [Bool.not_eq_true', decide_eq_false_iff_not]; exact aget_none h p hp
theorem aget_mem {ks : List (α × β)} {k : α} {v : β} (h : aget ks k = some v) : (k, v) ∈ ks := by
  induction ks with
  | nil => cases h
  | cons p ks ih =>
    rw [aget_cons] at h
    split at h
    · rename_i e
      cases h
      rw [← e]
      exact List.mem_cons_self
    · exact List.mem_cons_of_mem _ (ih h)
theorem aget_of_mem {ks : List (α × β)} (nd : (ks.map (·.1)).Nodup) {k : α} {v : β} (h : (k, v) ∈ ks) : aget ks k = some v := by
  induction ks with
  | nil => cases h
  | cons p ks ih =>
    rw [List.map_cons, List.nodup_cons] at nd
    rw [aget_cons]
    rcases List.mem_cons.mp h with e | h
    · rw [← e, if_pos rfl]
    · rw [if_neg (fun e => nd.1 (by rw [e]; exact List.mem_map_of_mem (f := (·.1)) h))]
      exact ih nd.2 h
theorem aget_iff {ks : List (α × β)} (nd : (ks.map (·.1)).Nodup) {k : α} {v : β} : aget ks k = some v ↔ (k, v) ∈ ks := ⟨aget_mem, aget_of_mem nd⟩
theorem aget_perm {ks ks' : List (α × β)} (h : ks.Perm ks') (nd : (ks.map (·.1)).Nodup) (k : α) : aget ks k = aget ks' k := by
  have nd' : (ks'.map (·.1)).Nodup := (h.map _).nodup_iff.mp nd
  refine Option.ext fun v => ?_
  rw [aget_iff nd, aget_iff nd']
  exact h.mem_iff
theorem aput_perm {ks ks' : List (α × β)} (h : ks.Perm ks') (nd : (ks.map (·.1)).Nodup) (k : α) (v : β) : (aput ks k v).Perm (aput ks' k v) := by
  unfold aput
  rw [aget_perm h nd k]
  split
  · exact h.map _
  · exact h.append_right _
theorem adrop_perm {ks ks' : List (α × β)} (h : ks.Perm ks') (k : α) : (adrop ks k).Perm (adrop ks' k) := h.filter _
theorem aput_keys (ks : List (α × β)) (x : α) (v : β) : (aput ks x v).map (·.1) = if x ∈ ks.map (·.1) then ks.map (·.1) else ks.map (·.1) ++ [x] := by
  unfold aput
  rw [aget_isSome]
  by_cases h : x ∈ ks.map (·.1)
  · rw [if_pos (decide_eq_true h), if_pos h, List.map_map]
    refine List.map_congr_left fun p _ => ?_
    show (if p.1 = x then (p.1, v) else p).1 = p.1
    split <;> rfl
  · rw [if_neg (by simpa using h), if_neg h, List.map_append]
    rfl
theorem aput_nodup {ks : List (α × β)} {x : α} {v : β} (h : (ks.map (·.1)).Nodup) : ((aput ks x v).map (·.1)).Nodup := by
  rw [aput_keys]
  split
  · exact h
  · rename_i hn
    rw [List.nodup_append]
    exact ⟨h, by simp, fun a ha b hb e => by rw [List.mem_singleton] at hb; subst hb; subst e; exact hn ha⟩
theorem adrop_nodup {ks : List (α × β)} {x : α} (h : (ks.map (·.1)).Nodup) : ((adrop ks x).map (·.1)).Nodup := h.sublist (List.filter_sublist.map _)
theorem aput_mem {ks : List (α × β)} {x : α} {v : β} {p : α × β} (h : p ∈ aput ks x v) : p ∈ ks ∨ p = (x, v) := by
  unfold aput at h
  split at h
  · rw [List.mem_map] at h
    obtain ⟨q, hq, e⟩ := h
    split at e
    · rename_i hx
      right; rw [← e, hx]
    · left; rw [← e]; exact hq
  · rw [List.mem_append, List.mem_singleton] at h
    exact h
theorem aput_len (ks : List (α × β)) (x : α) (v : β) : (aput ks x v).length ≤ ks.length + 1 := by
  unfold aput
  split
  · rw [List.length_map]; omega
  · rw [List.length_append]; exact Nat.le_refl _
theorem adrop_len (ks : List (α × β)) (x : α) : (adrop ks x).length ≤ ks.length := List.length_filter_le _ _
theorem adrop_mem {ks : List (α × β)} {x : α} {p : α × β} (h : p ∈ adrop ks x) : p ∈ ks := (List.mem_filter.mp h).1
/-- put, then taken out: as taken out -/
theorem adrop_aput (ks : List (α × β)) (x : α) (v : β) : adrop (aput ks x v) x = adrop ks x := by
  unfold aput adrop
  split
  · induction ks with
    | nil => rfl
    | cons p ks ih =>
      rename_i h
      rw [List.map_cons, List.filter_cons, List.filter_cons]
      have ih' : List.filter (fun p => !decide (p.1 = x)) (ks.map fun p => if p.1 = x then (p.1, v) else p) = List.filter (fun p => !decide (p.1 = x)) ks := by
        clear ih h
        induction ks with
        | nil => rfl
        | cons q ks ih =>
          rw [List.map_cons, List.filter_cons, List.filter_cons, ih]
          by_cases e : q.1 = x
          · simp [e]
          · simp [e]
      rw [ih']
      by_cases e : p.1 = x
      · simp [e]
      · simp [e]
  · rw [List.filter_append]
    simp
theorem aput_new {ks : List (α × β)} {x : α} {v : β} (h : x ∉ ks.map (·.1)) : aput ks x v = ks ++ [(x, v)] := by
  unfold aput
  rw [aget_isSome, if_neg (by simpa using h)]
/-! as rows of entries -/
def amap (f : α → U) (g : β → U) (ks : List (α × β)) : List (U × U) := ks.map fun p => (f p.1, g p.2)
variable {f : α → U} {g : β → U}
theorem dfind_amap (hf : ∀ a b, f a = f b → a = b) (ks : List (α × β)) (k : α) : dfind (amap f g ks) (f k) = (aget ks k).map g := by
  induction ks with
  | nil => rfl
  | cons p ks ih =>
    rw [aget_cons, show amap f g (p :: ks) = (f p.1, g p.2) :: amap f g ks from rfl]
    unfold dfind at ih ⊢
    rw [List.find?_cons]
    by_cases h : p.1 = k
    · rw [if_pos h, show decide (f p.1 = f k) = true from decide_eq_true (by rw [h])]
      rfl
    · rw [if_neg h, show decide (f p.1 = f k) = false from decide_eq_false (fun e => h (hf _ _ e))]
      exact ih
theorem dput_amap (hf : ∀ a b, f a = f b → a = b) (ks : List (α × β)) (k : α) (v : β) : dput (amap f g ks) (f k) (g v) = amap f g (aput ks k v) := by
  unfold dput aput
  rw [dfind_amap hf, Option.isSome_map]
  split
  · unfold amap
    rw [List.map_map, List.map_map]
    refine List.map_congr_left fun p _ => ?_
    show (if f p.1 = f k then (f p.1, g v) else (f p.1, g p.2)) = (f (if p.1 = k then (p.1, v) else p).1, g (if p.1 = k then (p.1, v) else p).2)
    by_cases h : p.1 = k
    · rw [if_pos h, if_pos (by rw [h])]
    · rw [if_neg h, if_neg (fun e => h (hf _ _ e))]
  · unfold amap
    rw [List.map_append]
    rfl
theorem ddrop_amap (hf : ∀ a b, f a = f b → a = b) (ks : List (α × β)) (k : α) : ddrop (amap f g ks) (f k) = amap f g (adrop ks k) := by
  unfold ddrop adrop amap
  rw [List.filter_map]
  congr 1
  refine List.filter_congr fun p _ => ?_
  show (!decide (f p.1 = f k)) = !decide (p.1 = k)
  congr 1
  exact decide_eq_decide.mpr ⟨hf _ _, fun e => by rw [e]⟩
theorem amap_keys (ks : List (α × β)) : (amap f g ks).map (·.1) = (ks.map (·.1)).map f := by
  unfold amap
  rw [List.map_map, List.map_map]
  rfl
theorem amap_len (ks : List (α × β)) : (amap f g ks).length = ks.length := List.length_map _
end
/-! ### order -/
def ltB (a b : U) : Bool := (PyProof.Rows.listOrd PyProof.Rows.itemOrd).blt (W.keyToks (pd a)) (W.keyToks (pd b))
theorem le_def (a b : U) : W.dataLe false pd a b = !ltB b a := rfl
theorem ltB_neg {a b c : U} (h : ltB a c = true) : ltB a b = true ∨ ltB b c = true := (PyProof.Rows.listOrd PyProof.Rows.itemOrd).negTrans _ _ _ h
theorem ltB_trans {a b c : U} (h : ltB a b = true) (g : ltB b c = true) : ltB a c = true := (PyProof.Rows.listOrd PyProof.Rows.itemOrd).trans _ _ _ h g
theorem ltB_irr (a : U) : ltB a a = false := (PyProof.Rows.listOrd PyProof.Rows.itemOrd).irrefl _
theorem ltB_tot {a b : U} (h : ltB a b = false) (g : ltB b a = false) : W.keyToks (pd a) = W.keyToks (pd b) := (PyProof.Rows.listOrd PyProof.Rows.itemOrd).total _ _ h g
theorem le_trans_ (a b c : U) : W.dataLe false pd a b = true → W.dataLe false pd b c = true → W.dataLe false pd a c = true := by
  simp only [le_def, Bool.not_eq_true']
  intro h1 h2
  cases q : ltB c a with
  | false => rfl
  | true =>
    rcases ltB_neg (b := b) q with z | z
    · rw [h2] at z; cases z
    · rw [h1] at z; cases z
theorem le_total_ (a b : U) : (W.dataLe false pd a b || W.dataLe false pd b a) = true := by
  simp only [le_def, Bool.or_eq_true, Bool.not_eq_true']
  cases q : ltB b a with
  | false => exact .inl rfl
  | true =>
    right
    cases q2 : ltB a b with
    | false => rfl
    | true =>
      have := ltB_trans q q2
      rw [ltB_irr] at this
      cases this
theorem str_cps {x y : Str} (e : x.cps = y.cps) : x = y := by
  cases x; cases y
  simp only at e
  rw [e]
/-- sorted things that only stand in another order -/
theorem sort_perm {α : Type} {f : α → U} (hf : ∀ a b, W.keyToks (pd (f a)) = W.keyToks (pd (f b)) → a = b) {l m : List α} (h : l.Perm m) : sortU (l.map f) = sortU (m.map f) := by
  unfold sortU
  refine List.Perm.eq_of_pairwise (le := fun a b => W.dataLe false pd a b = true) (fun a b ha hb h1 h2 => ?_) (List.pairwise_mergeSort le_trans_ le_total_ _) (List.pairwise_mergeSort le_trans_ le_total_ _)
    (((List.mergeSort_perm _ _).trans (h.map f)).trans (List.mergeSort_perm _ _).symm)
  have ha := (List.mergeSort_perm _ _).mem_iff.mp ha
  have hb := (List.mergeSort_perm _ _).mem_iff.mp hb
  rw [List.mem_map] at ha hb
  obtain ⟨x, _, rfl⟩ := ha
  obtain ⟨y, _, rfl⟩ := hb
  simp only [le_def, Bool.not_eq_true'] at h1 h2
  rw [hf x y (ltB_tot h2 h1)]
def sortT {α : Type} (f : α → U) (l : List α) : List α := l.mergeSort fun a b => W.dataLe false pd (f a) (f b)
theorem sortU_map {α : Type} (f : α → U) (l : List α) : sortU (l.map f) = (sortT f l).map f := by
  unfold sortU sortT
  rw [List.map_mergeSort (s := fun a b => W.dataLe false pd a b)]
  intros; rfl
theorem sortT_perm {α : Type} (f : α → U) (l : List α) : (sortT f l).Perm l := List.mergeSort_perm _ _
theorem map_inj_ {α β : Type} {f : α → β} (hf : ∀ a b, f a = f b → a = b) : ∀ {l m : List α}, l.map f = m.map f → l = m
  | [], [], _ => rfl
  | [], _ :: _, e => by cases e
  | _ :: _, [], e => by cases e
  | a :: l, b :: m, e => by
    rw [List.map_cons, List.map_cons] at e
    injection e with e1 e2
    rw [hf a b e1, map_inj_ hf e2]
/-- two texts -/
def encP (p : Str × Str) : U := .tup [.str p.1, .str p.2]
theorem encP_inj (a b : Str × Str) (h : encP a = encP b) : a = b := by
  unfold encP at h
  injection h with h
  injection h with h1 h2
  injection h2 with h2 h3
  injection h1 with h1
  injection h2 with h2
  exact Prod.ext h1 h2
theorem encP_tok (a b : Str × Str) (h : W.keyToks (pd (encP a)) = W.keyToks (pd (encP b))) : a = b := by
  obtain ⟨a1, a2⟩ := a
  obtain ⟨b1, b2⟩ := b
  simp [encP, pd, pdL, W.keyToks, W.keyToksAll] at h
  exact Prod.ext (str_cps h.1) (str_cps h.2)
theorem sortOk_P {l : List (Str × Str)} (ho : ∀ p ∈ l, okS p.1 = true ∧ okS p.2 = true) (hl : l.length ≤ LIM) : sortOk (l.map encP) := by
  refine ⟨?_, ?_, ?_, by rw [List.length_map]; exact hl⟩
  · refine List.all_eq_true.mpr fun x hx => ?_
    rw [List.mem_map] at hx
    obtain ⟨s, hs, rfl⟩ := hx
    obtain ⟨h1, h2⟩ := ho s hs
    simp [encP, U.ok, h1, h2]
  · intro d hd d' hd'
    simp only [List.mem_map] at hd hd'
    obtain ⟨_, ⟨a, _, rfl⟩, rfl⟩ := hd
    obtain ⟨_, ⟨b, _, rfl⟩, rfl⟩ := hd'
    simp [encP, pd, pdL, W.alike, W.alikeAll]
  · left
    intro d hd
    simp only [List.mem_map] at hd
    obtain ⟨_, ⟨a, _, rfl⟩, rfl⟩ := hd
    exact ⟨_, _, pd_tup _ _⟩
/-! ### what follows, unseen -/
theorem z_cutR {C : CE} {σ : SU} {M : Hm} {nx bk ct : SU → Hm → Prop} {rt : QU} {x : S} (h : ∀ R : SU → Hm → Prop, R = nx → wS C x ⟨R, rt, bk, ct⟩ σ M) : wS C x ⟨nx, rt, bk, ct⟩ σ M := h nx rfl
/-! ### loops over numbers -/
theorem forL_nat {step : U → (SU → Hm → Prop) → SU → Hm → Prop} {g : Hm → Prop} {fin : SU → Hm → Prop} (I : Nat → SU → Hm → Prop) (n : Nat) {σ : SU} {M : Hm} (h0 : I 0 σ M)
    (h1 : ∀ i σ M (k : SU → Hm → Prop), i < n → I i σ M → (∀ σ' M', g M' → I (i + 1) σ' M' → k σ' M') → step (.int (i : Nat)) k σ M)
    (h2 : ∀ σ M, I n σ M → fin σ M) : forL step g fin (rngU 0 (n : Int)) σ M := by
  rw [rngU_nat]
  suffices h : ∀ (m i : Nat) σ M, i + m = n → I i σ M → forL step g fin ((List.range' i m).map fun i => U.int (i : Nat)) σ M by
    rw [List.range_eq_range']
    exact h n 0 σ M (Nat.zero_add n) h0
  intro m
  induction m with
  | zero =>
    intro i σ M e h
    rw [Nat.add_zero] at e
    subst e
    exact h2 σ M h
  | succ m ih =>
    intro i σ M e h
    rw [List.range'_succ, List.map_cons]
    exact h1 i σ M _ (by omega) h fun σ' M' hg hi => ⟨hg, ih (i + 1) σ' M' (by omega) hi⟩
theorem compL_nat {step : U → (Option U → Hm → Prop) → Hm → Prop} {g : Hm → Prop} {fin : List U → Hm → Prop} (I : Nat → List U → Hm → Prop) (n : Nat) {M : Hm} (h0 : I 0 [] M)
    (h1 : ∀ i acc M (k : Option U → Hm → Prop), i < n → I i acc M → (∀ o M', g M' → (o.isSome = true → acc.length < LIM) → I (i + 1) (acc ++ o.toList) M' → k o M') → step (.int (i : Nat)) k M)
    (h2 : ∀ acc M, I n acc M → fin acc M) : compL step g fin (rngU 0 (n : Int)) [] M := by
  rw [rngU_nat]
  suffices h : ∀ (m i : Nat) acc M, i + m = n → I i acc M → compL step g fin ((List.range' i m).map fun i => U.int (i : Nat)) acc M by
    rw [List.range_eq_range']
    exact h n 0 [] M (Nat.zero_add n) h0
  intro m
  induction m with
  | zero =>
    intro i acc M e h
    rw [Nat.add_zero] at e
    subst e
    exact h2 acc M h
  | succ m ih =>
    intro i acc M e h
    rw [List.range'_succ, List.map_cons]
    exact h1 i acc M _ (by omega) h fun o M' hg hl hi => ⟨hg, hl, ih (i + 1) _ M' (by omega) hi⟩
/-! ### the same through and through -/
def okV : Nat → U → Bool
  | _, .non => true
  | _, .bl _ => true
  | _, .int _ => true
  | _, .str _ => true
  | n + 1, .tup l => decide (l.length ≤ LIM) && l.all (okV n)
  | _, _ => false
def SameE (C : CE) (f n : Nat) : Prop := ∀ (M : Hm) (u : U) (Q : QU), okV n u = true → Q (.bl true) M → C f [u, u] M Q
def IsIntC (C : CE) (f : Nat) : Prop := ∀ (M : Hm) (i : Int) (Q : QU), Q (.bl true) M → C f [.int i] M Q
def B_law_is_int : S := (.seq (.ret (.ands (.cons (.isinst (.var 0) "int") (.cons (.not (.isinst (.var 0) "bool")) .nil)))) .skip)
theorem is_int_ok {C : CE} {nx bk ct : SU → Hm → Prop} {rt : QU} {M : Hm} {i : Int} (hq : rt (.bl true) M) : wS C B_law_is_int ⟨nx, rt, bk, ct⟩ (startU 1 [.int i]) M := by
  unfold B_law_is_int
  (repeat decreasing_trivial_pre_omega)
  exact hq
def B_law_same (law_is_int : Nat) (law_same : Nat) : S := (.seq (.ifs (.isinst (.var 1) "tuple") (.seq (.ifs (.ors (.cons (.not (.isinst (.var 0) "tuple")) (.cons (.cmp .ne (.blt .len (.cons (.var 0) .nil)) (.blt .len (.cons (.var 1) .nil))) .nil))) (.seq (.ret (.bl false)) .skip) .skip) (.seq (.for_ (.one 2) (.iRange (.blt .len (.cons (.var 1) .nil))) (.seq (.ifs (.not (.call law_same (.cons (.ix (.var 0) (.var 2)) (.cons (.ix (.var 1) (.var 2)) .nil)))) (.seq (.ret (.bl false)) .skip) .skip) .skip)) (.seq (.ret (.bl true)) .skip))) .skip) (.seq (.ifs (.isN (.var 1)) (.seq (.ret (.isN (.var 0))) .skip) .skip) (.seq (.ifs (.isinst (.var 1) "bool") (.seq (.ret (.ands (.cons (.isinst (.var 0) "bool") (.cons (.cmp .eq (.var 0) (.var 1)) .nil)))) .skip) .skip) (.seq (.ifs (.isinst (.var 1) "int") (.seq (.ret (.ands (.cons (.call law_is_int (.cons (.var 0) .nil)) (.cons (.cmp .eq (.var 0) (.var 1)) .nil)))) .skip) .skip) (.seq (.ret (.ands (.cons (.isinst (.var 0) "str") (.cons (.cmp .eq (.var 0) (.var 1)) .nil)))) .skip)))))
theorem sameE_ok {C : CE} {fi f n : Nat} (hi : IsIntC C fi) (hrec : ∀ i, n = i + 1 → SameE C f i) {nx bk ct : SU → Hm → Prop} {rt : QU} {M : Hm} {u : U} (hd : okV n u = true) (hq : rt (.bl true) M) :
    wS C (B_law_same fi f) ⟨nx, rt, bk, ct⟩ (startU 3 [u, u]) M := by
  unfold B_law_same
  cases u with
  | ref _ => cases n <;> simp [okV] at hd
  | rol _ => cases n <;> simp [okV] at hd
  | dtp _ => cases n <;> simp [okV] at hd
  | non =>
    (repeat decreasing_trivial_pre_omega)
    exact hq
  | bl b =>
    (repeat decreasing_trivial_pre_omega)
    rw [decide_eq_true (p := b = b) rfl]
    exact hq
  | int i =>
    (repeat decreasing_trivial_pre_omega)
    refine hi _ _ _ ?_
    (repeat decreasing_trivial_pre_omega)
    rw [decide_eq_true (p := i = i) rfl]
    exact hq
  | str x =>
    (repeat decreasing_trivial_pre_omega)
    rw [decide_eq_true (p := x = x) rfl]
    exact hq
  | tup l =>
    cases n with
    | zero => simp [okV] at hd
    | succ n =>
      have hr := hrec n rfl
      have hd2 : l.length ≤ LIM ∧ ∀ x ∈ l, okV n x = true := by simpa [okV] using hd
      (repeat decreasing_trivial_pre_omega)
      refine ⟨by omega, by omega, ?_⟩
      refine forL_nat (fun i σ M' => (∃ u2, σ = [some (.tup l), some (.tup l), u2]) ∧ M' = M) l.length ⟨⟨_, rfl⟩, rfl⟩ ?_ ?_
      · intro j σ M' k hj ⟨⟨u2, e1⟩, e2⟩ hk
        subst e1 e2
        (repeat decreasing_trivial_pre_omega)
        refine x_tup (atI_nat hj) ?_
        (repeat decreasing_trivial_pre_omega)
        refine x_tup (atI_nat hj) ?_
        (repeat decreasing_trivial_pre_omega)
        refine hr _ _ _ (hd2.2 _ (List.getElem_mem hj)) ?_
        (repeat decreasing_trivial_pre_omega)
        exact hk _ _ trivial ⟨⟨_, rfl⟩, rfl⟩
      · intro σ M' ⟨⟨u2, e1⟩, e2⟩
        subst e1 e2
        (repeat decreasing_trivial_pre_omega)
        exact hq
end Pl

set_option maxHeartbeats 1000000
/-! k71: steps; caches; shelves -/
namespace K71
open PySem L2 Pl
def B_step_of : S := (.seq (.ifs (.cmp .eq (.ix (.var 0) (.int 0)) (.str "see")) (.seq (.ret (.tup (.cons (.str "see") (.cons (.ix (.var 0) (.int 1)) .nil)))) .skip) .skip) (.seq (.ret (.var 0)) .skip))
def B_step_after (step_of : Nat) : S := (.seq (.asg 2 (.blt .len (.cons (.var 1) .nil))) (.seq (.ifs (.cmp .ne (.slice (.var 0) .nil (.var 2)) (.var 1)) (.seq (.ret .non) .skip) .skip) (.seq (.ifs (.cmp .eq (.var 2) (.blt .len (.cons (.var 0) .nil))) (.seq (.ret (.tup (.cons (.str "done") .nil))) .skip) .skip) (.seq (.ret (.call step_of (.cons (.ix (.var 0) (.var 2)) .nil))) .skip))))
def B_first_step (step_after : Nat) : S := (.seq (.for_ (.many [3, 4]) (.iSeq (.var 0)) (.seq (.ifs (.cmp .eq (.var 3) (.var 1)) (.seq (.asg 5 (.call step_after (.cons (.var 4) (.cons (.var 2) .nil)))) (.seq (.ifs (.notN (.var 5)) (.seq (.ret (.var 5)) .skip) .skip) .skip)) .skip) .skip)) (.seq (.ret .non) .skip))
def B_table_step : S := (.seq (.for_ (.many [3, 4, 5]) (.iSeq (.var 0)) (.seq (.ifs (.ands (.cons (.cmp .eq (.var 3) (.var 1)) (.cons (.cmp .eq (.var 4) (.var 2)) .nil))) (.seq (.ret (.var 5)) .skip) .skip) .skip)) (.seq (.ret .non) .skip))
def B_Cache_init : S := (.seq (.setF "Cache" "_room" (.var 0) (.var 1)) (.seq (.setF "Cache" "_papers" (.var 0) (.lst .nil)) (.seq (.setF "Cache" "_table" (.var 0) .non) .skip)))
def B_Cache_papers : S := (.seq (.ret (.blt .tuple (.cons (.fld "_papers" (.var 0)) .nil))) .skip)
def B_Cache_honest : S := (.seq (.ret (.isN (.fld "_table" (.var 0)))) .skip)
def B_Cache_put : S := (.seq (.ifs (.cmp .isin (.var 1) (.fld "_papers" (.var 0))) (.seq (.ret (.bl false)) .skip) .skip) (.seq (.expr (.mth .append (.fld "_papers" (.var 0)) (.cons (.var 1) .nil))) (.seq (.ifs (.cmp .gt (.blt .len (.cons (.fld "_papers" (.var 0)) .nil)) (.fld "_room" (.var 0))) (.seq (.expr (.mth .popAt (.fld "_papers" (.var 0)) (.cons (.int 0) .nil))) .skip) .skip) (.seq (.ret (.bl true)) .skip))))
def B_Cache_answer (table_step : Nat) (first_step : Nat) : S := (.seq (.ifs (.isN (.fld "_table" (.var 0))) (.seq (.ret (.call first_step (.cons (.fld "_papers" (.var 0)) (.cons (.var 1) (.cons (.var 2) .nil))))) .skip) .skip) (.seq (.ret (.call table_step (.cons (.fld "_table" (.var 0)) (.cons (.var 1) (.cons (.var 2) .nil))))) .skip))
def B_Cache_corrupt : S := (.seq (.setF "Cache" "_table" (.var 0) (.var 1)) .skip)
def B_each_once : S := (.seq (.asg 1 .dnewN) (.seq (.for_ (.one 2) (.iSeq (.var 0)) (.seq (.setIx (.var 1) (.var 2) (.bl true)) .skip)) (.seq (.ret (.blt .tuple (.cons (.blt .list (.cons (.var 1) .nil)) .nil))) .skip)))
def B_begins_with : S := (.seq (.ret (.ands (.cons (.cmp .le (.blt .len (.cons (.var 1) .nil)) (.blt .len (.cons (.var 0) .nil))) (.cons (.cmp .eq (.slice (.var 0) .nil (.blt .len (.cons (.var 1) .nil))) (.var 1)) .nil)))) .skip)
def B_step_behind : S := (.seq (.ifs (.cmp .eq (.var 1) (.blt .len (.cons (.var 0) .nil))) (.seq (.ret (.tup (.cons (.str "done") .nil))) .skip) .skip) (.seq (.asg 2 (.ix (.var 0) (.var 1))) (.seq (.ifs (.cmp .eq (.ix (.var 2) (.int 0)) (.str "see")) (.seq (.ret (.tup (.cons (.str "see") (.cons (.ix (.var 2) (.int 1)) .nil)))) .skip) .skip) (.seq (.ret (.var 2)) .skip))))
def B_Shelf_init (each_once : Nat) : S := (.seq (.setF "Shelf" "_row" (.var 0) (.call each_once (.cons (.var 1) .nil))) (.seq (.setF "Shelf" "_held" (.var 0) (.dcompN [("paper", 2)] (.one 2) (.iSeq (.fld "_row" (.var 0))) .nil (.var 2) (.bl true))) .skip))
def B_Shelf_of : S := (.seq (.ret (.blt .tuple (.cons (.comp [("paper", 2)] (.one 2) (.iSeq (.fld "_row" (.var 0))) (.cmp .eq (.ix (.var 2) (.int 0)) (.var 1)) (.var 2)) .nil))) .skip)
def B_Shelf_follow (Shelf_of : Nat) (begins_with : Nat) (step_behind : Nat) : S := (.seq (.asg 3 .dnewN) (.seq (.for_ (.many [4, 5]) (.iSeq (.meth "Shelf" "of" Shelf_of (.var 0) (.cons (.var 1) .nil))) (.seq (.ifs (.call begins_with (.cons (.var 5) (.cons (.var 2) .nil))) (.seq (.setIx (.var 3) (.call step_behind (.cons (.var 5) (.cons (.blt .len (.cons (.var 2) .nil)) .nil))) (.bl true)) .skip) .skip) .skip)) (.seq (.ret (.blt .tuple (.cons (.blt .sorted (.cons (.var 3) .nil)) .nil))) .skip)))
theorem encE_inj (a b : Ev) (h : encE a = encE b) : a = b := by
  have h1 : ("ask" : Str) ≠ "put" := by decide +kernel
  have h2 : ("ask" : Str) ≠ "see" := by decide +kernel
  have h3 : ("put" : Str) ≠ "see" := by decide +kernel
  cases a <;> cases b <;> simp [encE] at h <;> first | (rw [h]; done) | (rw [h.1, h.2]; done) | exact absurd h.1 h1 | exact absurd h.1 h2 | exact absurd h.1 h3 | exact absurd h.1.symm h1 | exact absurd h.1.symm h2 | exact absurd h.1.symm h3
instance evDec : DecidableEq Ev := fun a b => if h : encE a = encE b then .isTrue (encE_inj _ _ h) else .isFalse (fun e => h (by rw [e]))
def trU (t : List Ev) : U := .tup (t.map encE)
theorem trU_inj (a b : List Ev) (h : trU a = trU b) : a = b := by
  unfold trU at h
  injection h with h
  exact map_inj_ encE_inj h
/-- what is done next -/
inductive Sp where | done | ask (w : Str) | see (w : Str) | put (w : Str) (c : Int)
  deriving DecidableEq
def encS : Sp → U
  | .done => .tup [.str "done"]
  | .ask w => .tup [.str "ask", .str w]
  | .see w => .tup [.str "see", .str w]
  | .put w c => .tup [.str "put", .str w, .int c]
theorem encS_inj (a b : Sp) (h : encS a = encS b) : a = b := by
  have h1 : ("ask" : Str) ≠ "see" := by decide +kernel
  cases a <;> cases b <;> simp [encS] at h <;> first | rfl | (rw [h]; done) | (rw [h.1, h.2]; done) | exact absurd h.1 h1 | exact absurd h.1.symm h1
def Sp.ok : Sp → Prop
  | .done => True
  | .ask w => okS w = true
  | .see w => okS w = true
  | .put w _ => okS w = true
def spOf : Ev → Sp
  | .ask r => .ask r
  | .see f _ => .see f
  | .put f c => .put f c
theorem spOf_ok {e : Ev} (h : e.ok) : (spOf e).ok := by cases e <;> exact h
def nextT (t ev : List Ev) : Option Sp := if t.take ev.length = ev then some (match t[ev.length]? with | none => .done | some e => spOf e) else none
def optS : Option Sp → U
  | none => .non
  | some s => encS s
abbrev Pap := Str × List Ev
def papU (p : Pap) : U := .tup [.str p.1, trU p.2]
theorem papU_inj (a b : Pap) (h : papU a = papU b) : a = b := by
  unfold papU at h
  simp only [U.tup.injEq, List.cons.injEq, U.str.injEq, and_true] at h
  exact Prod.ext h.1 (trU_inj _ _ h.2)
def firstT (P : List Pap) (r : Str) (ev : List Ev) : Option Sp := P.findSome? fun p => if p.1 = r then nextT p.2 ev else none
abbrev Ent := Str × List Ev × Sp
def entU (e : Ent) : U := .tup [.str e.1, trU e.2.1, encS e.2.2]
def tableT (T : List Ent) (r : Str) (ev : List Ev) : Option Sp := T.findSome? fun e => if e.1 = r ∧ e.2.1 = ev then some e.2.2 else none
def TrOk (t : List Ev) : Prop := t.length ≤ 100 ∧ ∀ e ∈ t, e.ok
theorem encE_okU {e : Ev} (h : e.ok) (n : Nat) : (encE e).ok (n + 1) = true := by
  have h1 : okS "ask" = true := by decide +kernel
  have h2 : okS "put" = true := by decide +kernel
  have h3 : okS "see" = true := by decide +kernel
  cases e with
  | ask r => have h : okS r = true := h; simp [encE, U.ok, h, h1]
  | put f c => have h : okS f = true := h; simp [encE, U.ok, h, h2]
  | see f c => have h : okS f = true := h; simp [encE, U.ok, h, h3]
theorem mapE_okU {t : List Ev} (h : ∀ e ∈ t, e.ok) (k : Nat) : U.ok (k + 2) (.tup (t.map encE)) = true := by
  show ((t.map encE).all (U.ok (k + 1))) = true
  rw [List.all_eq_true]
  intro x hx
  obtain ⟨e, he, rfl⟩ := List.mem_map.mp hx
  exact encE_okU (h e he) k
theorem encS_okU {s : Sp} (h : s.ok) (n : Nat) : (encS s).ok (n + 1) = true := by
  have h1 : okS "ask" = true := by decide +kernel
  have h2 : okS "put" = true := by decide +kernel
  have h3 : okS "see" = true := by decide +kernel
  have h4 : okS "done" = true := by decide +kernel
  cases s with
  | done => simp [encS, U.ok, h4]
  | ask r => have h : okS r = true := h; simp [encS, U.ok, h, h1]
  | put f c => have h : okS f = true := h; simp [encS, U.ok, h, h2]
  | see f => have h : okS f = true := h; simp [encS, U.ok, h, h3]
/-! ### the program's steps -/
theorem step_ok {C : CE} {nx bk ct : SU → Hm → Prop} {rt : QU} {M : Hm} {e : Ev} (hq : rt (encS (spOf e)) M) : wS C B_step_of ⟨nx, rt, bk, ct⟩ (startU 1 [encE e]) M := by
  unfold B_step_of
  cases e <;> (simp only [encE]; (repeat decreasing_trivial_pre_omega); exact hq)
def StepC (C : CE) (f : Nat) : Prop := ∀ (M : Hm) (e : Ev) (Q : QU), Q (encS (spOf e)) M → C f [encE e] M Q
theorem after_ok {C : CE} {fs : Nat} (hs : StepC C fs) {nx bk ct : SU → Hm → Prop} {rt : QU} {M : Hm} {t ev : List Ev} (ht : TrOk t) (he : TrOk ev) (hq : rt (optS (nextT t ev)) M) : wS C (B_step_after fs) ⟨nx, rt, bk, ct⟩ (startU 3 [trU t, trU ev]) M := by
  unfold B_step_after
  simp only [trU]
  have o1 := mapE_okU (t := t.take ev.length) (fun e h => ht.2 e (List.mem_of_mem_take h)) 58
  have o2 := mapE_okU he.2 58
  (repeat decreasing_trivial_pre_omega)
  rw [List.length_map, cutU_take, ← List.map_take]
  refine eq_tup o1 o2 ?_
  by_cases h : t.take ev.length = ev
  · refine i_iff (by rw [h]; simp) ?_
    (repeat decreasing_trivial_pre_omega)
    rw [List.length_map]
    unfold nextT at hq
    rw [if_pos h] at hq
    have hle : ev.length ≤ t.length := by
      have := congrArg List.length h
      rw [List.length_take] at this
      omega
    by_cases h2 : ev.length = t.length
    · rw [List.getElem?_eq_none (by omega)] at hq
      refine i_ift (by simp [h2]) ?_
      (repeat decreasing_trivial_pre_omega)
      exact hq
    · have hlt : ev.length < t.length := by omega
      rw [List.getElem?_eq_getElem hlt] at hq
      refine i_iff (by simp; omega) ?_
      (repeat decreasing_trivial_pre_omega)
      refine x_tup (v := encE t[ev.length]) (by rw [Pl.atI_nat (by rw [List.length_map]; exact hlt), List.getElem_map]) ?_
      (repeat decreasing_trivial_pre_omega)
      exact hs _ _ _ hq
  · refine i_ift (by
      rw [Bool.not_eq_true', decide_eq_false_iff_not]
      intro z
      injection z with z
      exact h (map_inj_ encE_inj z)) ?_
    (repeat decreasing_trivial_pre_omega)
    unfold nextT at hq
    rw [if_neg h] at hq
    exact hq
end K71

set_option maxHeartbeats 1000000
/-! k71: caches and shelves, walked -/
namespace K71
open PySem L2 Pl
theorem encS_non (s : Sp) : ¬ encS s = U.non := by cases s <;> simp [encS]
def AfterC (C : CE) (f : Nat) : Prop := ∀ (M : Hm) (t ev : List Ev) (Q : QU), TrOk t → TrOk ev → Q (optS (nextT t ev)) M → C f [trU t, trU ev] M Q
def PapOk (p : Pap) : Prop := okS p.1 = true ∧ TrOk p.2
theorem firstT_skip {p : Pap} {P : List Pap} {r : Str} {ev : List Ev} (h : (if p.1 = r then nextT p.2 ev else none) = none) : firstT (p :: P) r ev = firstT P r ev := by
  unfold firstT
  rw [List.findSome?_cons, h]
theorem firstT_hit {p : Pap} {P : List Pap} {r : Str} {ev : List Ev} {s : Sp} (h : (if p.1 = r then nextT p.2 ev else none) = some s) : firstT (p :: P) r ev = some s := by
  unfold firstT
  rw [List.findSome?_cons, h]
theorem first_ok {C : CE} {fa : Nat} (hA : AfterC C fa) {nx bk ct : SU → Hm → Prop} {rt : QU} {M : Hm} {pl : Addr} {P : List Pap} {r : Str} {ev : List Ev} (hp : M pl = some (.lst (P.map papU))) (hP : ∀ p ∈ P, PapOk p) (he : TrOk ev) (hq : rt (optS (firstT P r ev)) M) :
    wS C (B_first_step fa) ⟨nx, rt, bk, ct⟩ (startU 6 [.ref pl, .str r, trU ev]) M := by
  unfold B_first_step
  (repeat decreasing_trivial_pre_omega)
  refine forL_by (enc := papU) (fun don rest σ M' => (∃ u3 u4 u5, σ = [some (.ref pl), some (.str r), some (trU ev), u3, u4, u5]) ∧ M' = M ∧ firstT rest r ev = firstT P r ev) P ⟨⟨_, _, _, rfl⟩, rfl, rfl⟩ ?_ ?_
  · intro don x rest σ M' k e ⟨⟨u3, u4, u5, e1⟩, e2, e3⟩ hk
    subst e1 e2
    have hx := hP x (by rw [← e]; simp)
    simp only [papU]
    (repeat decreasing_trivial_pre_omega)
    by_cases h : x.1 = r
    · (repeat decreasing_trivial_pre_omega)
      refine hA _ _ _ _ hx.2 he ?_
      cases hn : nextT x.2 ev with
      | none =>
        rw [firstT_skip (by rw [if_pos h, hn])] at e3
        simp only [optS]
        (repeat decreasing_trivial_pre_omega)
        exact hk _ _ hp ⟨⟨_, _, _, rfl⟩, rfl, e3⟩
      | some s =>
        rw [firstT_hit (by rw [if_pos h, hn])] at e3
        rw [← e3] at hq
        simp only [optS] at hq ⊢
        have hnn := encS_non s
        (repeat decreasing_trivial_pre_omega)
        exact hq
    · rw [firstT_skip (by rw [if_neg h])] at e3
      (repeat decreasing_trivial_pre_omega)
      exact hk _ _ hp ⟨⟨_, _, _, rfl⟩, rfl, e3⟩
  · intro σ M' ⟨⟨u3, u4, u5, e1⟩, e2, e3⟩
    subst e1 e2
    (repeat decreasing_trivial_pre_omega)
    rw [← e3] at hq
    exact hq
def FirstC (C : CE) (f : Nat) : Prop := ∀ (M : Hm) (pl : Addr) (P : List Pap) (r : Str) (ev : List Ev) (Q : QU), M pl = some (.lst (P.map papU)) → (∀ p ∈ P, PapOk p) → TrOk ev → Q (optS (firstT P r ev)) M → C f [.ref pl, .str r, trU ev] M Q
def EntOk (e : Ent) : Prop := okS e.1 = true ∧ TrOk e.2.1 ∧ e.2.2.ok
theorem table_ok {C : CE} {nx bk ct : SU → Hm → Prop} {rt : QU} {M : Hm} {T : List Ent} {r : Str} {ev : List Ev} (hT : ∀ e ∈ T, EntOk e) (he : TrOk ev) (hq : rt (optS (tableT T r ev)) M) :
    wS C B_table_step ⟨nx, rt, bk, ct⟩ (startU 6 [.tup (T.map entU), .str r, trU ev]) M := by
  unfold B_table_step
  simp only [trU]
  (repeat decreasing_trivial_pre_omega)
  refine forL_by (enc := entU) (fun don rest σ M' => (∃ u3 u4 u5, σ = [some (.tup (T.map entU)), some (.str r), some (.tup (ev.map encE)), u3, u4, u5]) ∧ M' = M ∧ tableT rest r ev = tableT T r ev) T ⟨⟨_, _, _, rfl⟩, rfl, rfl⟩ ?_ ?_
  · intro don x rest σ M' k e ⟨⟨u3, u4, u5, e1⟩, e2, e3⟩ hk
    subst e1 e2
    have hx := hT x (by rw [← e]; simp)
    have o1 := mapE_okU hx.2.1.2 58
    have o2 := mapE_okU he.2 58
    have skip : ¬ (x.1 = r ∧ x.2.1 = ev) → tableT rest r ev = tableT T r ev := fun h => by
      rw [← e3]
      unfold tableT
      rw [List.findSome?_cons, if_neg h]
    simp only [entU, trU]
    (repeat decreasing_trivial_pre_omega)
    by_cases h : x.1 = r
    · (repeat decreasing_trivial_pre_omega)
      refine eq_tup o1 o2 ?_
      by_cases h2 : x.2.1 = ev
      · refine i_ift (by rw [h2]; simp) ?_
        (repeat decreasing_trivial_pre_omega)
        have : tableT (x :: rest) r ev = some x.2.2 := by
          unfold tableT
          rw [List.findSome?_cons, if_pos ⟨h, h2⟩]
        rw [← e3, this] at hq
        exact hq
      · refine i_iff (by
          rw [decide_eq_false_iff_not]
          intro z
          injection z with z
          exact h2 (map_inj_ encE_inj z)) ?_
        (repeat decreasing_trivial_pre_omega)
        exact hk _ _ trivial ⟨⟨_, _, _, rfl⟩, rfl, skip fun z => h2 z.2⟩
    · (repeat decreasing_trivial_pre_omega)
      exact hk _ _ trivial ⟨⟨_, _, _, rfl⟩, rfl, skip fun z => h z.1⟩
  · intro σ M' ⟨⟨u3, u4, u5, e1⟩, e2, e3⟩
    subst e1 e2
    (repeat decreasing_trivial_pre_omega)
    rw [← e3] at hq
    exact hq
def TableC (C : CE) (f : Nat) : Prop := ∀ (M : Hm) (T : List Ent) (r : Str) (ev : List Ev) (Q : QU), (∀ e ∈ T, EntOk e) → TrOk ev → Q (optS (tableT T r ev)) M → C f [.tup (T.map entU), .str r, trU ev] M Q
/-! ### the cache -/
def tabU : Option (List Ent) → U
  | none => .non
  | some T => .tup (T.map entU)
structure CaAt (M : Hm) (a pl : Addr) (room : Nat) (P : List Pap) (tb : Option (List Ent)) : Prop where
  ob : M a = some (.obj "Cache" [("_room", .int (room : Nat)), ("_papers", .ref pl), ("_table", tabU tb)])
  ps : M pl = some (.lst (P.map papU))
def Fr1 (c : Addr) (M M' : Hm) : Prop := ∀ b, b ≠ c → ∀ o, M b = some o → M' b = some o
theorem cinit_ok {C : CE} {nx bk ct : SU → Hm → Prop} {rt : QU} {M : Hm} {a : Addr} {room : Nat} (ha : M a = some (.obj "Cache" [])) (hq : ∀ σ M' pl, M pl = none → Fr1 a M M' → CaAt M' a pl room [] none → nx σ M') :
    wS C B_Cache_init ⟨nx, rt, bk, ct⟩ (startU 2 [.ref a, .int (room : Nat)]) M := by
  unfold B_Cache_init
  (repeat decreasing_trivial_pre_omega)
  intro c hc
  have hca : a ≠ c := fun e => by subst e; rw [um_same] at hc; cases hc
  have hc1 := um_none hc
  (repeat decreasing_trivial_pre_omega)
  refine hq _ _ c hc1 ?_ ⟨um_same, um_oth hca.symm (um_oth hca.symm um_same)⟩
  intro b hb o e
  have hbc : b ≠ c := ne_of_old e hc1
  rw [um_ne hb, um_ne hb, um_ne hbc, um_ne hb]
  exact e
def CInitC (C : CE) (f : Nat) : Prop := ∀ (M : Hm) (a : Addr) (room : Nat) (Q : QU), M a = some (.obj "Cache" []) → (∀ M' pl, M pl = none → Fr1 a M M' → CaAt M' a pl room [] none → Q .non M') → C f [.ref a, .int (room : Nat)] M Q
theorem cpapers_ok {C : CE} {nx bk ct : SU → Hm → Prop} {rt : QU} {M : Hm} {a pl : Addr} {room : Nat} {P : List Pap} {tb : Option (List Ent)} (h : CaAt M a pl room P tb) (hq : rt (.tup (P.map papU)) M) :
    wS C B_Cache_papers ⟨nx, rt, bk, ct⟩ (startU 1 [.ref a]) M := by
  obtain ⟨h1, h2⟩ := h
  unfold B_Cache_papers
  (repeat decreasing_trivial_pre_omega)
  exact hq
theorem chonest_ok {C : CE} {nx bk ct : SU → Hm → Prop} {rt : QU} {M : Hm} {a pl : Addr} {room : Nat} {P : List Pap} {tb : Option (List Ent)} (h : CaAt M a pl room P tb) (hq : rt (.bl (decide (tabU tb = .non))) M) :
    wS C B_Cache_honest ⟨nx, rt, bk, ct⟩ (startU 1 [.ref a]) M := by
  obtain ⟨h1, h2⟩ := h
  unfold B_Cache_honest
  (repeat decreasing_trivial_pre_omega)
  exact hq
def ccorrupt_ok {C : CE} {nx bk ct : SU → Hm → Prop} {rt : QU} {M : Hm} {a pl : Addr} {room : Nat} {P : List Pap} {tb : Option (List Ent)} {T : List Ent} (h : CaAt M a pl room P tb) (hq : ∀ σ M', Fr1 a M M' → CaAt M' a pl room P (some T) → nx σ M') :
    wS C B_Cache_corrupt ⟨nx, rt, bk, ct⟩ (startU 2 [.ref a, .tup (T.map entU)]) M := by
  obtain ⟨h1, h2⟩ := h
  have ne : pl ≠ a := fun e => by rw [e, h1] at h2; cases h2
  unfold B_Cache_corrupt
  (repeat decreasing_trivial_pre_omega)
  exact hq _ _ (fun b hb o e => um_oth hb e) ⟨um_same, um_oth ne h2⟩
def putP (room : Nat) (P : List Pap) (p : Pap) : List Pap := if room < (P ++ [p]).length then (P ++ [p]).drop 1 else P ++ [p]
theorem pap_okU {p : Pap} (h : PapOk p) (k : Nat) : (papU p).ok (k + 3) = true := by
  have a := h.1
  have b := mapE_okU h.2.2 k
  simp only [papU, trU, U.ok, List.all_cons, List.all_nil, Bool.and_true, a, Bool.true_and]
  simpa only [U.ok] using b
theorem paps_okL {P : List Pap} (h : ∀ p ∈ P, PapOk p) : okL (P.map papU) = true := okL_of fun y hy => by
  obtain ⟨p, hp, rfl⟩ := List.mem_map.mp hy
  exact pap_okU (h p hp) 56
theorem mem_paps {P : List Pap} {p : Pap} : papU p ∈ P.map papU ↔ p ∈ P := ⟨fun h => by
  obtain ⟨q, h1, h2⟩ := List.mem_map.mp h
  rw [← papU_inj _ _ h2]; exact h1, fun h => List.mem_map.mpr ⟨_, h, rfl⟩⟩
theorem cput_ok {C : CE} {nx bk ct : SU → Hm → Prop} {rt : QU} {M : Hm} {a pl : Addr} {room : Nat} {P : List Pap} {tb : Option (List Ent)} {p : Pap} (h : CaAt M a pl room P tb) (hl : P.length ≤ 1000) (hP : ∀ q ∈ P, PapOk q) (hp : PapOk p)
    (h1 : p ∈ P → rt (.bl false) M) (h2 : p ∉ P → rt (.bl true) (um M pl (.lst ((putP room P p).map papU)))) : wS C B_Cache_put ⟨nx, rt, bk, ct⟩ (startU 2 [.ref a, papU p]) M := by
  have hlim : LIM = 100000 := rfl
  obtain ⟨ho, hps⟩ := h
  have ne : a ≠ pl := fun e => by rw [e, hps] at ho; cases ho
  unfold B_Cache_put
  (repeat decreasing_trivial_pre_omega)
  refine in_lst hps (pap_okU hp 57) (paps_okL hP) ?_
  by_cases hin : p ∈ P
  · refine i_ift (by rw [decide_eq_true (mem_paps.mpr hin)]) ?_
    (repeat decreasing_trivial_pre_omega)
    exact h1 hin
  · have h2 := h2 hin
    refine i_iff (by rw [decide_eq_false fun z => hin (mem_paps.mp z)]) ?_
    (repeat decreasing_trivial_pre_omega)
    refine m_app hps (by rw [List.length_map]; omega) ?_
    rw [show P.map papU ++ [papU p] = (P ++ [p]).map papU by simp]
    have ho2 := um_oth (o := .lst ((P ++ [p]).map papU)) ne ho
    have hps2 := um_same (M := M) (a := pl) (o := .lst ((P ++ [p]).map papU))
    unfold putP at h2
    (repeat decreasing_trivial_pre_omega)
    rw [List.length_map]
    by_cases hr : room < (P ++ [p]).length
    · rw [if_pos hr] at h2
      have hr2 : room < P.length + 1 := by simpa using hr
      refine i_ift (by simp; omega) ?_
      (repeat decreasing_trivial_pre_omega)
      refine m_popAt (k := 0) (x := papU ((P ++ [p])[0]'(by simp))) hps2 (by rw [List.length_map, List.length_append]; simp; omega) (by unfold ixN; rw [if_pos (by decide), if_pos (by rw [List.length_map, List.length_append]; simp <;> omega)]; rfl) (by rw [List.getElem?_map, List.getElem?_eq_getElem (by simp)]; rfl) ?_
      rw [um_um]
      (repeat decreasing_trivial_pre_omega)
      have : ((P ++ [p]).map papU).eraseIdx 0 = ((P ++ [p]).drop 1).map papU := by rw [List.eraseIdx_zero, ← List.drop_one, List.map_drop]
      rw [this]
      exact h2
    · rw [if_neg hr] at h2
      have hr2 : ¬ room < P.length + 1 := by simpa using hr
      refine i_iff (by simp; omega) ?_
      (repeat decreasing_trivial_pre_omega)
      exact h2
theorem canswer_ok {C : CE} {ft ff : Nat} (hT : TableC C ft) (hF : FirstC C ff) {nx bk ct : SU → Hm → Prop} {rt : QU} {M : Hm} {a pl : Addr} {room : Nat} {P : List Pap} {tb : Option (List Ent)} {r : Str} {ev : List Ev} (h : CaAt M a pl room P tb) (hP : ∀ q ∈ P, PapOk q) (hE : ∀ T, tb = some T → ∀ e ∈ T, EntOk e) (he : TrOk ev)
    (hq : rt (optS (match tb with | none => firstT P r ev | some T => tableT T r ev)) M) : wS C (B_Cache_answer ft ff) ⟨nx, rt, bk, ct⟩ (startU 3 [.ref a, .str r, trU ev]) M := by
  obtain ⟨ho, hps⟩ := h
  unfold B_Cache_answer
  cases tb with
  | none =>
    simp only [tabU] at ho
    (repeat decreasing_trivial_pre_omega)
    exact hF _ _ _ _ _ _ hps hP he hq
  | some T =>
    simp only [tabU] at ho
    (repeat decreasing_trivial_pre_omega)
    exact hT _ _ _ _ _ (hE T rfl) he hq
end K71

set_option maxHeartbeats 1000000
/-! k71: shelves, walked -/
namespace K71
open PySem L2 Pl
theorem encE_key (e : Ev) (n : Nat) : (encE e).okN (n + 1) = true := by cases e <;> simp [encE, U.okN]
theorem papU_key (p : Pap) : isKeyN (papU p) = true := by
  have h : (trU p.2).okN 6 = true := by
    unfold trU
    show ((p.2.map encE).all (U.okN 5)) = true
    rw [List.all_eq_true]
    intro x hx
    obtain ⟨e, _, rfl⟩ := List.mem_map.mp hx
    exact encE_key e 4
  show ([U.str p.1, trU p.2].all (U.okN 6)) = true
  simp only [List.all_cons, List.all_nil, Bool.and_true, h]
  rfl
theorem encS_key (s : Sp) : isKeyN (encS s) = true := by cases s <;> rfl
def OnceC (C : CE) (f : Nat) : Prop := ∀ (M : Hm) (P : List Pap) (Q : QU), P.Nodup → P.length ≤ 1000 → (∀ M', Sub M M' → Q (.tup (P.map papU)) M') → C f [.tup (P.map papU)] M Q
theorem once_ok {C : CE} {nx bk ct : SU → Hm → Prop} {rt : QU} {M : Hm} {P : List Pap} (nd : P.Nodup) (hl : P.length ≤ 1000) (hq : ∀ M', Sub M M' → rt (.tup (P.map papU)) M') : wS C B_each_once ⟨nx, rt, bk, ct⟩ (startU 3 [.tup (P.map papU)]) M := by
  have hlim : LIM = 100000 := rfl
  unfold B_each_once
  (repeat decreasing_trivial_pre_omega)
  intro m hm
  (repeat decreasing_trivial_pre_omega)
  refine forL_by (enc := papU) (fun don rest σ M' => (∃ u2, σ = [some (.tup (P.map papU)), some (.ref m), u2]) ∧ M' m = some (.dcn (amap papU U.bl (don.map fun p => (p, true)))) ∧ Sub M M') P ⟨⟨_, rfl⟩, um_same, sub_new (Sub.refl _) hm⟩ ?_ ?_
  · intro don x rest σ M' k e ⟨⟨u2, e1⟩, e2, e3⟩ hk
    subst e1
    have hdl : don.length + rest.length + 1 = P.length := by rw [← e]; simp; omega
    have hx : x ∉ (don.map fun p => (p, true)).map (·.1) := by
      rw [← e] at nd
      have := (List.nodup_append.mp nd).2.2
      rw [List.map_map]
      intro h
      obtain ⟨y, hy, h2⟩ := List.mem_map.mp h
      exact this y hy x List.mem_cons_self h2
    have ed := dput_amap (f := papU) (g := U.bl) papU_inj (don.map fun p => (p, true)) x true
    rw [aput_new hx] at ed
    (repeat decreasing_trivial_pre_omega)
    refine st_dcn e2 (papU_key x) (by rw [amap_len, List.length_map]; omega) ?_
    rw [ed]
    (repeat decreasing_trivial_pre_omega)
    refine hk _ _ trivial ⟨⟨_, rfl⟩, ?_, sub_um e3 hm⟩
    rw [um_same, List.map_append]
    rfl
  · intro σ M' ⟨⟨u2, e1⟩, e2, e3⟩
    subst e1
    (repeat decreasing_trivial_pre_omega)
    intro q hq0
    (repeat decreasing_trivial_pre_omega)
    have : (amap papU U.bl (P.map fun p => (p, true))).map (·.1) = P.map papU := by
      rw [amap_keys, List.map_map, List.map_map]
      rfl
    rw [this]
    exact hq _ (sub_new e3 hq0)
def ShAt (M : Hm) (a : Addr) (P : List Pap) : Prop := ∃ hd, M a = some (.obj "Shelf" [("_row", .tup (P.map papU)), ("_held", .ref hd)])
def SInitC (C : CE) (f : Nat) : Prop := ∀ (M : Hm) (a : Addr) (P : List Pap) (Q : QU), M a = some (.obj "Shelf" []) → P.Nodup → P.length ≤ 1000 → (∀ M', Fr1 a M M' → ShAt M' a P → Q .non M') → C f [.ref a, .tup (P.map papU)] M Q
theorem sinit_ok {C : CE} {fo : Nat} (ho : OnceC C fo) {nx bk ct : SU → Hm → Prop} {rt : QU} {M : Hm} {a : Addr} {P : List Pap} (ha : M a = some (.obj "Shelf" [])) (nd : P.Nodup) (hl : P.length ≤ 1000) (hq : ∀ σ M', Fr1 a M M' → ShAt M' a P → nx σ M') :
    wS C (B_Shelf_init fo) ⟨nx, rt, bk, ct⟩ (startU 3 [.ref a, .tup (P.map papU)]) M := by
  have hlim : LIM = 100000 := rfl
  unfold B_Shelf_init
  (repeat decreasing_trivial_pre_omega)
  refine ho _ P _ nd hl fun M1 s1 => ?_
  have ha1 := s1 _ _ ha
  (repeat decreasing_trivial_pre_omega)
  intro hd hhd
  have hda : a ≠ hd := fun e => by rw [e, um_same] at hhd; cases hhd
  have hhd1 : M1 hd = none := um_none hhd
  refine ⟨trivial, ?_⟩
  refine dcompL_by (enc := papU) (fun don rest M' => ∃ ks, M' hd = some (.dcn ks) ∧ ks.length ≤ don.length ∧ M' a = some (.obj "Shelf" [("_row", .tup (P.map papU))]) ∧ Fr1 a M M') P ⟨[], um_same, Nat.le_refl _, um_oth hda um_same, fun b hb o e => ?_⟩ ?_ ?_
  · have hbh : b ≠ hd := ne_of_old (s1 _ _ e) hhd1
    rw [um_ne hbh, um_ne hb]
    exact s1 _ _ e
  · intro don x rest M' k e ⟨ks, e1, e2, e3, e4⟩ hk
    have hdl : don.length + rest.length + 1 = P.length := by rw [← e]; simp; omega
    (repeat decreasing_trivial_pre_omega)
    refine ⟨ks, e1, papU_key x, by omega, hk _ trivial ⟨_, um_same, ?_, um_oth hda e3, fun b hb o e5 => ?_⟩⟩
    · have : (dput ks (papU x) (.bl true)).length ≤ ks.length + 1 := by
        unfold dput
        split
        · rw [List.length_map]; omega
        · rw [List.length_append]; exact Nat.le_refl _
      rw [List.length_append]
      simp only [List.length_singleton]
      omega
    · have hbh : b ≠ hd := ne_of_old (s1 _ _ e5) hhd1
      rw [um_ne hbh]
      exact e4 b hb o e5
  · intro M' ⟨ks, e1, e2, e3, e4⟩
    (repeat decreasing_trivial_pre_omega)
    refine hq _ _ (fun b hb o e5 => by rw [um_ne hb]; exact e4 b hb o e5) ⟨hd, um_same⟩
def OfC (C : CE) (f : Nat) : Prop := ∀ (M : Hm) (a : Addr) (P : List Pap) (r : Str) (Q : QU), ShAt M a P → P.length ≤ 1000 → (∀ M', Sub M M' → Q (.tup ((P.filter fun p => decide (p.1 = r)).map papU)) M') → C f [.ref a, .str r] M Q
theorem of_ok {C : CE} {nx bk ct : SU → Hm → Prop} {rt : QU} {M : Hm} {a : Addr} {P : List Pap} {r : Str} (h : ShAt M a P) (hl : P.length ≤ 1000) (hq : ∀ M', Sub M M' → rt (.tup ((P.filter fun p => decide (p.1 = r)).map papU)) M') :
    wS C B_Shelf_of ⟨nx, rt, bk, ct⟩ (startU 3 [.ref a, .str r]) M := by
  have hlim : LIM = 100000 := rfl
  obtain ⟨hd, ho⟩ := h
  unfold B_Shelf_of
  (repeat decreasing_trivial_pre_omega)
  refine compL_by (enc := papU) (fun don rest acc M' => M' = M ∧ acc = (don.filter fun p => decide (p.1 = r)).map papU) P ⟨rfl, rfl⟩ ?_ ?_
  · intro don x rest acc M' k e ⟨e1, e2⟩ hk
    subst e1 e2
    have hfl : (don.filter fun q => decide (q.1 = r)).length ≤ don.length := List.length_filter_le _ _
    have hdl : don.length + rest.length + 1 = P.length := by rw [← e]; simp; omega
    simp only [papU]
    (repeat decreasing_trivial_pre_omega)
    by_cases hx : x.1 = r
    · (repeat decreasing_trivial_pre_omega)
      refine hk _ _ trivial (fun _ => by rw [List.length_map]; omega) ⟨rfl, ?_⟩
      rw [List.filter_append, List.filter_cons, if_pos (decide_eq_true hx)]
      simp [papU]
    · (repeat decreasing_trivial_pre_omega)
      refine hk _ _ trivial (fun z => by cases z) ⟨rfl, ?_⟩
      rw [List.filter_append, List.filter_cons, if_neg (by simpa using hx)]
      simp
  · intro acc M' ⟨e1, e2⟩
    subst e1 e2
    intro q hq0
    (repeat decreasing_trivial_pre_omega)
    exact hq _ (sub_new (Sub.refl _) hq0)
theorem begins_ok {C : CE} {nx bk ct : SU → Hm → Prop} {rt : QU} {M : Hm} {t ev : List Ev} (ht : TrOk t) (he : TrOk ev) (hq : rt (.bl (decide (t.take ev.length = ev))) M) : wS C B_begins_with ⟨nx, rt, bk, ct⟩ (startU 2 [trU t, trU ev]) M := by
  unfold B_begins_with
  simp only [trU]
  have o1 := mapE_okU (t := t.take ev.length) (fun e h => ht.2 e (List.mem_of_mem_take h)) 58
  have o2 := mapE_okU he.2 58
  (repeat decreasing_trivial_pre_omega)
  rw [List.length_map, List.length_map]
  by_cases hle : ev.length ≤ t.length
  · refine i_ift (by simpa using hle) ?_
    (repeat decreasing_trivial_pre_omega)
    rw [List.length_map, cutU_take, ← List.map_take]
    refine eq_tup o1 o2 ?_
    have : decide (U.tup ((t.take ev.length).map encE) = U.tup (ev.map encE)) = decide (t.take ev.length = ev) := by
      rw [decide_eq_decide]
      exact ⟨fun z => by injection z with z; exact map_inj_ encE_inj z, fun z => by rw [z]⟩
    rw [this]
    exact hq
  · refine i_iff (by simpa using hle) ?_
    have : decide (t.take ev.length = ev) = false := by
      rw [decide_eq_false_iff_not]
      intro z
      have := congrArg List.length z
      rw [List.length_take] at this
      omega
    rw [this] at hq
    exact hq
def BeginsC (C : CE) (f : Nat) : Prop := ∀ (M : Hm) (t ev : List Ev) (Q : QU), TrOk t → TrOk ev → Q (.bl (decide (t.take ev.length = ev))) M → C f [trU t, trU ev] M Q
def behT (t : List Ev) (n : Nat) : Sp := match t[n]? with | none => .done | some e => spOf e
theorem behind_ok {C : CE} {nx bk ct : SU → Hm → Prop} {rt : QU} {M : Hm} {t : List Ev} {n : Nat} (hn : n ≤ t.length) (hq : rt (encS (behT t n)) M) : wS C B_step_behind ⟨nx, rt, bk, ct⟩ (startU 3 [trU t, .int (n : Nat)]) M := by
  unfold B_step_behind
  simp only [trU]
  (repeat decreasing_trivial_pre_omega)
  rw [List.length_map]
  unfold behT at hq
  by_cases h2 : n = t.length
  · rw [List.getElem?_eq_none (by omega)] at hq
    refine i_ift (by simp [h2]) ?_
    (repeat decreasing_trivial_pre_omega)
    exact hq
  · have hlt : n < t.length := by omega
    rw [List.getElem?_eq_getElem hlt] at hq
    refine i_iff (by simp; omega) ?_
    (repeat decreasing_trivial_pre_omega)
    refine x_tup (v := encE t[n]) (by rw [Pl.atI_nat (by rw [List.length_map]; exact hlt), List.getElem_map]) ?_
    generalize t[n] = e at *
    cases e <;> (simp only [encE, spOf, encS] at hq ⊢; (repeat decreasing_trivial_pre_omega); exact hq)
def BehindC (C : CE) (f : Nat) : Prop := ∀ (M : Hm) (t : List Ev) (n : Nat) (Q : QU), n ≤ t.length → Q (encS (behT t n)) M → C f [trU t, .int (n : Nat)] M Q
/-- what is found, each once -/
def foundT (P : List Pap) (r : Str) (ev : List Ev) : List Sp := P.foldl (fun acc p => match (if p.1 = r then nextT p.2 ev else none) with | none => acc | some s => if s ∈ acc then acc else acc ++ [s]) []
theorem foundT_snoc (P : List Pap) (p : Pap) (r : Str) (ev : List Ev) : foundT (P ++ [p]) r ev = match (if p.1 = r then nextT p.2 ev else none) with | none => foundT P r ev | some s => if s ∈ foundT P r ev then foundT P r ev else foundT P r ev ++ [s] := by
  unfold foundT
  rw [List.foldl_append]
  rfl
theorem foundT_filter (P : List Pap) (r : Str) (ev : List Ev) : foundT (P.filter fun p => decide (p.1 = r)) r ev = foundT P r ev := by
  induction P using snocs with
  | h0 => rfl
  | h1 P p ih =>
    rw [List.filter_append, List.filter_cons]
    by_cases h : p.1 = r
    · rw [if_pos (decide_eq_true h), List.filter_nil, foundT_snoc, foundT_snoc, ih]
    · rw [if_neg (by simpa using h), List.filter_nil, List.append_nil, foundT_snoc, if_neg h, ih]
theorem foundT_len (P : List Pap) (r : Str) (ev : List Ev) : (foundT P r ev).length ≤ P.length := by
  induction P using snocs with
  | h0 => exact Nat.le_refl _
  | h1 P p ih =>
    rw [foundT_snoc, List.length_append]
    split
    · simp; omega
    · split
      · simp; omega
      · rw [List.length_append]; simp; omega
theorem nextT_ok {t ev : List Ev} {s : Sp} (ht : TrOk t) (h : nextT t ev = some s) : s.ok := by
  unfold nextT at h
  split at h
  · injection h with h
    rw [← h]
    split
    · trivial
    · rename_i e he
      exact spOf_ok (ht.2 e (List.mem_of_getElem? he))
  · cases h
theorem foundT_ok {P : List Pap} {r : Str} {ev : List Ev} (hP : ∀ p ∈ P, PapOk p) : ∀ s ∈ foundT P r ev, s.ok := by
  induction P using snocs with
  | h0 => intro s h; cases h
  | h1 P p ih =>
    have ih := ih fun q hq => hP q (List.mem_append_left _ hq)
    rw [foundT_snoc]
    split
    · exact ih
    · rename_i s hs
      split at hs
      · split
        · exact ih
        · intro s' h
          rcases List.mem_append.mp h with h | h
          · exact ih s' h
          · rw [List.mem_singleton.mp h]
            exact nextT_ok (hP p (by simp)).2 hs
      · cases hs
theorem sortOk_S {l : List Sp} (ho : ∀ s ∈ l, s.ok) (hl : l.length ≤ LIM) : sortOk (l.map encS) := by
  refine ⟨?_, ?_, ?_, by rw [List.length_map]; exact hl⟩
  · refine List.all_eq_true.mpr fun x hx => ?_
    rw [List.mem_map] at hx
    obtain ⟨s, hs, rfl⟩ := hx
    exact encS_okU (ho s hs) 58
  · intro d hd d' hd'
    simp only [List.mem_map] at hd hd'
    obtain ⟨_, ⟨a, _, rfl⟩, rfl⟩ := hd
    obtain ⟨_, ⟨b, _, rfl⟩, rfl⟩ := hd'
    cases a <;> cases b <;> simp [encS, pd, pdL, W.alike, W.alikeAll]
  · left
    intro d hd
    simp only [List.mem_map] at hd
    obtain ⟨_, ⟨a, _, rfl⟩, rfl⟩ := hd
    cases a <;> exact ⟨_, _, pd_tup _ _⟩
theorem follow_ok {C : CE} {fo fb fs : Nat} (hO : OfC C fo) (hB : BeginsC C fb) (hS : BehindC C fs) {nx bk ct : SU → Hm → Prop} {rt : QU} {M : Hm} {a : Addr} {P : List Pap} {r : Str} {ev : List Ev} (h : ShAt M a P) (hl : P.length ≤ 1000) (hP : ∀ p ∈ P, PapOk p) (he : TrOk ev)
    (hq : ∀ M', Sub M M' → rt (.tup (sortU ((foundT P r ev).map encS))) M') : wS C (B_Shelf_follow fo fb fs) ⟨nx, rt, bk, ct⟩ (startU 6 [.ref a, .str r, trU ev]) M := by
  have hlim : LIM = 100000 := rfl
  obtain ⟨hd, ho⟩ := h
  unfold B_Shelf_follow
  (repeat decreasing_trivial_pre_omega)
  intro m hm
  have ho1 := um_old (o := .dcn []) ho hm
  (repeat decreasing_trivial_pre_omega)
  refine hO _ a P r _ ⟨hd, ho1⟩ hl fun M2 s2 => ?_
  have hfl : (P.filter fun p => decide (p.1 = r)).length ≤ P.length := List.length_filter_le _ _
  (repeat decreasing_trivial_pre_omega)
  refine forL_by (enc := papU) (fun don rest σ M' => (∃ u4 u5, σ = [some (.ref a), some (.str r), some (trU ev), some (.ref m), u4, u5]) ∧ M' m = some (.dcn (amap encS U.bl ((foundT don r ev).map fun s => (s, true)))) ∧ Sub M M') (P.filter fun p => decide (p.1 = r)) ⟨⟨_, _, rfl⟩, s2 _ _ um_same, (sub_new (Sub.refl _) hm).trans s2⟩ ?_ ?_
  · intro don x rest σ M' k e ⟨⟨u4, u5, e1⟩, e2, e3⟩ hk
    subst e1
    have hdl : don.length + rest.length + 1 = (P.filter fun p => decide (p.1 = r)).length := by rw [← e]; simp; omega
    have hx : x ∈ P.filter fun p => decide (p.1 = r) := by rw [← e]; simp
    obtain ⟨hx1, hx2⟩ := List.mem_filter.mp hx
    have hx2 : x.1 = r := by simpa using hx2
    have hxo := hP x hx1
    have hfd := foundT_len don r ev
    simp only [papU]
    (repeat decreasing_trivial_pre_omega)
    refine hB _ _ _ _ hxo.2 he ?_
    have sn := foundT_snoc don x r ev
    rw [if_pos hx2] at sn
    unfold nextT at sn
    by_cases hb : x.2.take ev.length = ev
    · rw [if_pos hb] at sn
      have hle : ev.length ≤ x.2.length := by
        have := congrArg List.length hb
        rw [List.length_take] at this
        omega
      refine i_ift (by rw [decide_eq_true hb]) ?_
      simp only [trU]
      (repeat decreasing_trivial_pre_omega)
      rw [List.length_map]
      refine hS _ x.2 ev.length _ hle ?_
      have sn : foundT (don ++ [x]) r ev = if behT x.2 ev.length ∈ foundT don r ev then foundT don r ev else foundT don r ev ++ [behT x.2 ev.length] := sn
      generalize behT x.2 ev.length = s at *
      have ed := dput_amap (f := encS) (g := U.bl) encS_inj ((foundT don r ev).map fun s => (s, true)) s true
      (repeat decreasing_trivial_pre_omega)
      refine st_dcn e2 (encS_key s) (by rw [amap_len, List.length_map]; omega) ?_
      rw [ed]
      (repeat decreasing_trivial_pre_omega)
      refine hk _ _ trivial ⟨⟨_, _, rfl⟩, ?_, sub_um e3 hm⟩
      rw [um_same, sn]
      have keys : ((foundT don r ev).map fun s => (s, true)).map (·.1) = foundT don r ev := by rw [List.map_map]; exact List.map_id _
      by_cases hin : s ∈ foundT don r ev
      · rw [if_pos hin]
        have : aput ((foundT don r ev).map fun s => (s, true)) s true = (foundT don r ev).map fun s => (s, true) := by
          unfold aput
          rw [aget_isSome, keys, decide_eq_true hin, if_pos rfl, List.map_map]
          refine List.map_congr_left fun y _ => ?_
          simp only [Function.comp]
          split <;> rfl
        rw [this]
      · rw [if_neg hin, aput_new (by rw [keys]; exact hin), List.map_append]
        rfl
    · rw [if_neg hb] at sn
      refine i_iff (by rw [decide_eq_false hb]) ?_
      (repeat decreasing_trivial_pre_omega)
      refine hk _ _ trivial ⟨⟨_, _, rfl⟩, ?_, e3⟩
      rw [sn]
      exact e2
  · intro σ M' ⟨⟨u4, u5, e1⟩, e2, e3⟩
    subst e1
    have keys : (amap encS U.bl ((foundT P r ev).map fun s => (s, true))).map (·.1) = (foundT P r ev).map encS := by rw [amap_keys, List.map_map, List.map_map]; rfl
    rw [foundT_filter] at e2
    have hfd := foundT_len P r ev
    (repeat decreasing_trivial_pre_omega)
    refine f_sortN e2 (by rw [keys]; exact sortOk_S (foundT_ok hP) (by omega)) ?_
    rw [keys]
    intro q hq0
    (repeat decreasing_trivial_pre_omega)
    exact hq _ (sub_new e3 hq0)
def FollowC (C : CE) (f : Nat) : Prop := ∀ (M : Hm) (a : Addr) (P : List Pap) (r : Str) (ev : List Ev) (Q : QU), ShAt M a P → P.length ≤ 1000 → (∀ p ∈ P, PapOk p) → TrOk ev → (∀ M', Sub M M' → Q (.tup (sortU ((foundT P r ev).map encS))) M') → C f [.ref a, .str r, trU ev] M Q
end K71

set_option maxHeartbeats 1000000
/-! k71: the law's models -/
namespace K71
open PySem L2 Pl
def B_law_same (law_same : Nat) : S := (.seq (.ifs (.isinst (.var 1) "tuple") (.seq (.ifs (.ors (.cons (.not (.isinst (.var 0) "tuple")) (.cons (.cmp .ne (.blt .len (.cons (.var 0) .nil)) (.blt .len (.cons (.var 1) .nil))) .nil))) (.seq (.ret (.bl false)) .skip) .skip) (.seq (.for_ (.one 2) (.iRange (.blt .len (.cons (.var 1) .nil))) (.seq (.ifs (.not (.call law_same (.cons (.ix (.var 0) (.var 2)) (.cons (.ix (.var 1) (.var 2)) .nil)))) (.seq (.ret (.bl false)) .skip) .skip) .skip)) (.seq (.ret (.bl true)) .skip))) .skip) (.seq (.ifs (.isN (.var 1)) (.seq (.ret (.isN (.var 0))) .skip) .skip) (.seq (.ifs (.isinst (.var 1) "bool") (.seq (.ret (.ands (.cons (.isinst (.var 0) "bool") (.cons (.cmp .eq (.var 0) (.var 1)) .nil)))) .skip) .skip) (.seq (.ifs (.isinst (.var 1) "str") (.seq (.ret (.ands (.cons (.isinst (.var 0) "str") (.cons (.cmp .eq (.var 0) (.var 1)) .nil)))) .skip) .skip) (.seq (.ret (.ands (.cons (.isinst (.var 0) "int") (.cons (.not (.isinst (.var 0) "bool")) (.cons (.cmp .eq (.var 0) (.var 1)) .nil))))) .skip)))))
def B_law_next : S := (.seq (.ifs (.cmp .gt (.blt .len (.cons (.var 1) .nil)) (.blt .len (.cons (.var 0) .nil))) (.seq (.ret .non) .skip) .skip) (.seq (.for_ (.one 2) (.iRange (.blt .len (.cons (.var 1) .nil))) (.seq (.ifs (.cmp .ne (.ix (.var 0) (.var 2)) (.ix (.var 1) (.var 2))) (.seq (.ret .non) .skip) .skip) .skip)) (.seq (.ifs (.cmp .eq (.blt .len (.cons (.var 1) .nil)) (.blt .len (.cons (.var 0) .nil))) (.seq (.ret (.tup (.cons (.str "done") .nil))) .skip) .skip) (.seq (.asg 3 (.ix (.var 0) (.blt .len (.cons (.var 1) .nil)))) (.seq (.ret (.ite (.cmp .eq (.ix (.var 3) (.int 0)) (.str "see")) (.tup (.cons (.str "see") (.cons (.ix (.var 3) (.int 1)) .nil))) (.var 3))) .skip)))))
def B_law_answer (law_next : Nat) : S := (.seq (.ifs (.notN (.ix (.var 0) (.int 2))) (.seq (.for_ (.one 3) (.iSeq (.ix (.var 0) (.int 2))) (.seq (.ifs (.ands (.cons (.cmp .eq (.ix (.var 3) (.int 0)) (.var 1)) (.cons (.cmp .eq (.ix (.var 3) (.int 1)) (.var 2)) .nil))) (.seq (.ret (.ix (.var 3) (.int 2))) .skip) .skip) .skip)) (.seq (.ret .non) .skip)) .skip) (.seq (.for_ (.one 4) (.iSeq (.ix (.var 0) (.int 1))) (.seq (.ifs (.cmp .eq (.ix (.var 4) (.int 0)) (.var 1)) (.seq (.asg 5 (.call law_next (.cons (.ix (.var 4) (.int 1)) (.cons (.var 2) .nil)))) (.seq (.ifs (.notN (.var 5)) (.seq (.ret (.var 5)) .skip) .skip) .skip)) .skip) .skip)) (.seq (.ret .non) .skip)))
def B_law_put : S := (.seq (.ifs (.cmp .isin (.var 1) (.ix (.var 0) (.int 1))) (.seq (.ret (.bl false)) .skip) .skip) (.seq (.expr (.mth .append (.ix (.var 0) (.int 1)) (.cons (.var 1) .nil))) (.seq (.ifs (.cmp .gt (.blt .len (.cons (.ix (.var 0) (.int 1)) .nil)) (.ix (.var 0) (.int 0))) (.seq (.expr (.mth .popAt (.ix (.var 0) (.int 1)) (.cons (.int 0) .nil))) .skip) .skip) (.seq (.ret (.bl true)) .skip))))
def B_law_answers_hold (law_same : Nat) (law_answer : Nat) (Cache_answer : Nat) : S := (.seq (.ret (.call law_same (.cons (.meth "Cache" "answer" Cache_answer (.var 0) (.cons (.var 2) (.cons (.var 3) .nil))) (.cons (.call law_answer (.cons (.var 1) (.cons (.var 2) (.cons (.var 3) .nil)))) .nil)))) .skip)
def B_law_state_holds (law_same : Nat) (Cache_honest : Nat) (Cache_papers : Nat) : S := (.seq (.ifs (.not (.call law_same (.cons (.prop "Cache" "papers" Cache_papers (.var 0)) (.cons (.blt .tuple (.cons (.ix (.var 1) (.int 1)) .nil)) .nil)))) (.seq (.ret (.bl false)) .skip) .skip) (.seq (.ret (.call law_same (.cons (.prop "Cache" "honest" Cache_honest (.var 0)) (.cons (.isN (.ix (.var 1) (.int 2))) .nil)))) .skip))
def B_law_follow_holds (Cache_answer : Nat) (law_same : Nat) (Shelf_follow : Nat) (law_next : Nat) : S := (.seq (.asg 5 (.lst .nil)) (.seq (.for_ (.one 6) (.iSeq (.ix (.var 2) (.int 1))) (.seq (.asg 7 (.ite (.cmp .eq (.ix (.var 6) (.int 0)) (.var 3)) (.call law_next (.cons (.ix (.var 6) (.int 1)) (.cons (.var 4) .nil))) .non)) (.seq (.ifs (.ands (.cons (.notN (.var 7)) (.cons (.cmp .notin (.var 7) (.var 5)) .nil))) (.seq (.expr (.mth .append (.var 5) (.cons (.var 7) .nil))) .skip) .skip) .skip))) (.seq (.ifs (.not (.call law_same (.cons (.meth "Shelf" "follow" Shelf_follow (.var 0) (.cons (.var 3) (.cons (.var 4) .nil))) (.cons (.blt .tuple (.cons (.blt .sorted (.cons (.var 5) .nil)) .nil)) .nil)))) (.seq (.ret (.bl false)) .skip) .skip) (.seq (.asg 8 (.meth "Cache" "answer" Cache_answer (.var 1) (.cons (.var 3) (.cons (.var 4) .nil)))) (.seq (.ret (.ors (.cons (.notN (.ix (.var 2) (.int 2))) (.cons (.ands (.cons (.isN (.var 8)) (.cons (.not (.var 5)) .nil))) (.cons (.cmp .isin (.var 8) (.var 5)) .nil))))) .skip)))))
theorem take_snoc_eq {p : Nat} {t full : List Ev} (g1 : p < t.length) (g2 : p < full.length) : t.take (p + 1) = full.take (p + 1) ↔ t.take p = full.take p ∧ t[p] = full[p] := by
  have e1 : t.take (p + 1) = t.take p ++ [t[p]] := by rw [List.take_succ, List.getElem?_eq_getElem g1]; rfl
  have e2 : full.take (p + 1) = full.take p ++ [full[p]] := by rw [List.take_succ, List.getElem?_eq_getElem g2]; rfl
  rw [e1, e2]
  constructor
  · intro h
    obtain ⟨h1, h2⟩ := List.append_inj' h rfl
    exact ⟨h1, by injection h2⟩
  · rintro ⟨h1, h2⟩
    rw [h1, h2]
theorem lsame_ok {C : CE} {f n : Nat} (hrec : ∀ i, n = i + 1 → SameE C f i) {nx bk ct : SU → Hm → Prop} {rt : QU} {M : Hm} {u : U} (hd : okV n u = true) (hq : rt (.bl true) M) :
    wS C (B_law_same f) ⟨nx, rt, bk, ct⟩ (startU 3 [u, u]) M := by
  unfold B_law_same
  cases u with
  | ref _ => cases n <;> simp [okV] at hd
  | rol _ => cases n <;> simp [okV] at hd
  | dtp _ => cases n <;> simp [okV] at hd
  | non =>
    (repeat decreasing_trivial_pre_omega)
    exact hq
  | bl b =>
    (repeat decreasing_trivial_pre_omega)
    rw [decide_eq_true (p := b = b) rfl]
    exact hq
  | int i =>
    (repeat decreasing_trivial_pre_omega)
    rw [decide_eq_true (p := i = i) rfl]
    exact hq
  | str x =>
    (repeat decreasing_trivial_pre_omega)
    rw [decide_eq_true (p := x = x) rfl]
    exact hq
  | tup l =>
    cases n with
    | zero => simp [okV] at hd
    | succ n =>
      have hr := hrec n rfl
      have hd2 : l.length ≤ LIM ∧ ∀ x ∈ l, okV n x = true := by simpa [okV] using hd
      (repeat decreasing_trivial_pre_omega)
      refine ⟨by omega, by omega, ?_⟩
      refine forL_nat (fun i σ M' => (∃ u2, σ = [some (.tup l), some (.tup l), u2]) ∧ M' = M) l.length ⟨⟨_, rfl⟩, rfl⟩ ?_ ?_
      · intro j σ M' k hj ⟨⟨u2, e1⟩, e2⟩ hk
        subst e1 e2
        (repeat decreasing_trivial_pre_omega)
        refine x_tup (Pl.atI_nat hj) ?_
        (repeat decreasing_trivial_pre_omega)
        refine x_tup (Pl.atI_nat hj) ?_
        (repeat decreasing_trivial_pre_omega)
        refine hr _ _ _ (hd2.2 _ (List.getElem_mem hj)) ?_
        (repeat decreasing_trivial_pre_omega)
        exact hk _ _ trivial ⟨⟨_, rfl⟩, rfl⟩
      · intro σ M' ⟨⟨u2, e1⟩, e2⟩
        subst e1 e2
        (repeat decreasing_trivial_pre_omega)
        exact hq
theorem next_ok {C : CE} {nx bk ct : SU → Hm → Prop} {rt : QU} {M : Hm} {t ev : List Ev} (ht : TrOk t) (he : TrOk ev) (hq : rt (optS (nextT t ev)) M) : wS C B_law_next ⟨nx, rt, bk, ct⟩ (startU 4 [trU t, trU ev]) M := by
  have hlim : LIM = 100000 := rfl
  have h1 := ht.1
  have h2 := he.1
  unfold B_law_next
  simp only [trU]
  (repeat decreasing_trivial_pre_omega)
  rw [List.length_map, List.length_map]
  by_cases hgt : t.length < ev.length
  · refine i_ift (by simpa using hgt) ?_
    (repeat decreasing_trivial_pre_omega)
    have : nextT t ev = none := by
      unfold nextT
      rw [if_neg]
      intro z
      have := congrArg List.length z
      rw [List.length_take] at this
      omega
    rw [this] at hq
    exact hq
  · refine i_iff (by simpa using hgt) ?_
    (repeat decreasing_trivial_pre_omega)
    rw [List.length_map]
    refine ⟨by omega, by omega, ?_⟩
    refine forL_nat (fun i σ M' => (∃ u2 u3, σ = [some (.tup (t.map encE)), some (.tup (ev.map encE)), u2, u3]) ∧ M' = M ∧ t.take i = ev.take i) ev.length ⟨⟨_, _, rfl⟩, rfl, by simp⟩ ?_ ?_
    · intro i σ M' k hi ⟨⟨u2, u3, e1⟩, e2, e3⟩ hk
      subst e1 e2
      have hit : i < t.length := by omega
      have hab : ∃ a b, encE t[i] = .tup a ∧ encE ev[i] = .tup b := by
        cases t[i] <;> cases ev[i] <;> exact ⟨_, _, rfl, rfl⟩
      obtain ⟨ea, eb, ea1, eb1⟩ := hab
      have oa := encE_okU (ht.2 _ (List.getElem_mem hit)) 59
      have ob := encE_okU (he.2 _ (List.getElem_mem hi)) 59
      rw [ea1] at oa
      rw [eb1] at ob
      have g1 : atI (t.map encE) (i : Nat) = some (.tup ea) := by rw [Pl.atI_nat (by rw [List.length_map]; exact hit), List.getElem_map, ea1]
      have g2 : atI (ev.map encE) (i : Nat) = some (.tup eb) := by rw [Pl.atI_nat (by rw [List.length_map]; exact hi), List.getElem_map, eb1]
      (repeat decreasing_trivial_pre_omega)
      refine x_tup g1 ?_
      (repeat decreasing_trivial_pre_omega)
      refine x_tup g2 ?_
      (repeat decreasing_trivial_pre_omega)
      refine eq_tup oa ob ?_
      rw [← ea1, ← eb1]
      have hiff := take_snoc_eq hit hi
      by_cases h : t[i] = ev[i]
      · refine i_iff (by rw [h]; simp) ?_
        (repeat decreasing_trivial_pre_omega)
        exact hk _ _ trivial ⟨⟨_, _, rfl⟩, rfl, hiff.mpr ⟨e3, h⟩⟩
      · refine i_ift (by
          rw [Bool.not_eq_true', decide_eq_false_iff_not]
          exact fun z => h (encE_inj _ _ z)) ?_
        (repeat decreasing_trivial_pre_omega)
        have : nextT t ev = none := by
          unfold nextT
          rw [if_neg]
          intro z
          have z2 := congrArg (List.take (i + 1)) z
          rw [List.take_take, Nat.min_eq_left (by omega)] at z2
          exact h (hiff.mp z2).2
        rw [this] at hq
        exact hq
    · intro σ M' ⟨⟨u2, u3, e1⟩, e2, e3⟩
      subst e1 e2
      rw [List.take_length] at e3
      have hn : nextT t ev = some (match t[ev.length]? with | none => .done | some e => spOf e) := by
        unfold nextT
        rw [if_pos e3]
        first | done | (cases t[ev.length]? <;> rfl)
      rw [hn] at hq
      (repeat decreasing_trivial_pre_omega)
      rw [List.length_map, List.length_map]
      by_cases h2 : ev.length = t.length
      · rw [List.getElem?_eq_none (by omega)] at hq
        refine i_ift (by simp [h2]) ?_
        (repeat decreasing_trivial_pre_omega)
        exact hq
      · have hlt : ev.length < t.length := by omega
        rw [List.getElem?_eq_getElem hlt] at hq
        refine i_iff (by simp; omega) ?_
        (repeat decreasing_trivial_pre_omega)
        rw [List.length_map]
        refine x_tup (v := encE t[ev.length]) (by rw [Pl.atI_nat (by rw [List.length_map]; exact hlt), List.getElem_map]) ?_
        generalize t[ev.length] = e at *
        cases e <;> (simp only [encE, spOf, optS, encS] at hq ⊢; (repeat decreasing_trivial_pre_omega); exact hq)
structure MoAt (M : Hm) (m ml : Addr) (room : Nat) (P : List Pap) (tb : Option (List Ent)) : Prop where
  ob : M m = some (.lst [.int (room : Nat), .ref ml, tabU tb])
  ps : M ml = some (.lst (P.map papU))
def ansT (P : List Pap) (tb : Option (List Ent)) (r : Str) (ev : List Ev) : Option Sp := match tb with | none => firstT P r ev | some T => tableT T r ev
def TbOk (tb : Option (List Ent)) : Prop := ∀ T, tb = some T → ∀ e ∈ T, EntOk e
theorem answer_ok {C : CE} {fn : Nat} (hN : AfterC C fn) {nx bk ct : SU → Hm → Prop} {rt : QU} {M : Hm} {m ml : Addr} {room : Nat} {P : List Pap} {tb : Option (List Ent)} {r : Str} {ev : List Ev} (h : MoAt M m ml room P tb) (hP : ∀ p ∈ P, PapOk p) (hT : TbOk tb) (he : TrOk ev) (hq : rt (optS (ansT P tb r ev)) M) :
    wS C (B_law_answer fn) ⟨nx, rt, bk, ct⟩ (startU 6 [.ref m, .str r, trU ev]) M := by
  obtain ⟨h1, h2⟩ := h
  unfold B_law_answer
  cases tb with
  | none =>
    simp only [tabU] at h1
    have hq : rt (optS (firstT P r ev)) M := hq
    (repeat decreasing_trivial_pre_omega)
    refine forL_by (enc := papU) (fun don rest σ M' => (∃ u3 u4 u5, σ = [some (.ref m), some (.str r), some (trU ev), u3, u4, u5]) ∧ M' = M ∧ firstT rest r ev = firstT P r ev) P ⟨⟨_, _, _, rfl⟩, rfl, rfl⟩ ?_ ?_
    · intro don x rest σ M' k e ⟨⟨u3, u4, u5, e1⟩, e2, e3⟩ hk
      subst e1 e2
      have hx := hP x (by rw [← e]; simp)
      simp only [papU]
      (repeat decreasing_trivial_pre_omega)
      by_cases h : x.1 = r
      · (repeat decreasing_trivial_pre_omega)
        refine hN _ _ _ _ hx.2 he ?_
        cases hn : nextT x.2 ev with
        | none =>
          rw [firstT_skip (by rw [if_pos h, hn])] at e3
          simp only [optS]
          (repeat decreasing_trivial_pre_omega)
          exact hk _ _ h2 ⟨⟨_, _, _, rfl⟩, rfl, e3⟩
        | some s =>
          rw [firstT_hit (by rw [if_pos h, hn])] at e3
          rw [← e3] at hq
          simp only [optS] at hq ⊢
          have hnn := encS_non s
          (repeat decreasing_trivial_pre_omega)
          exact hq
      · rw [firstT_skip (by rw [if_neg h])] at e3
        (repeat decreasing_trivial_pre_omega)
        exact hk _ _ h2 ⟨⟨_, _, _, rfl⟩, rfl, e3⟩
    · intro σ M' ⟨⟨u3, u4, u5, e1⟩, e2, e3⟩
      subst e1 e2
      (repeat decreasing_trivial_pre_omega)
      rw [← e3] at hq
      exact hq
  | some T =>
    simp only [tabU] at h1
    have hq : rt (optS (tableT T r ev)) M := hq
    have hT := hT T rfl
    (repeat decreasing_trivial_pre_omega)
    refine forL_by (enc := entU) (fun don rest σ M' => (∃ u3 u4 u5, σ = [some (.ref m), some (.str r), some (trU ev), u3, u4, u5]) ∧ M' = M ∧ tableT rest r ev = tableT T r ev) T ⟨⟨_, _, _, rfl⟩, rfl, rfl⟩ ?_ ?_
    · intro don x rest σ M' k e ⟨⟨u3, u4, u5, e1⟩, e2, e3⟩ hk
      subst e1 e2
      have hx := hT x (by rw [← e]; simp)
      have o1 := mapE_okU hx.2.1.2 58
      have o2 := mapE_okU he.2 58
      have skip : ¬ (x.1 = r ∧ x.2.1 = ev) → tableT rest r ev = tableT T r ev := fun h => by
        rw [← e3]
        unfold tableT
        rw [List.findSome?_cons, if_neg h]
      simp only [entU, trU]
      (repeat decreasing_trivial_pre_omega)
      by_cases h : x.1 = r
      · (repeat decreasing_trivial_pre_omega)
        refine eq_tup o1 o2 ?_
        by_cases h2 : x.2.1 = ev
        · refine i_ift (by rw [h2]; simp) ?_
          (repeat decreasing_trivial_pre_omega)
          have : tableT (x :: rest) r ev = some x.2.2 := by
            unfold tableT
            rw [List.findSome?_cons, if_pos ⟨h, h2⟩]
          rw [← e3, this] at hq
          exact hq
        · refine i_iff (by
            rw [decide_eq_false_iff_not]
            intro z
            injection z with z
            exact h2 (map_inj_ encE_inj z)) ?_
          (repeat decreasing_trivial_pre_omega)
          exact hk _ _ trivial ⟨⟨_, _, _, rfl⟩, rfl, skip fun z => h2 z.2⟩
      · (repeat decreasing_trivial_pre_omega)
        exact hk _ _ trivial ⟨⟨_, _, _, rfl⟩, rfl, skip fun z => h z.1⟩
    · intro σ M' ⟨⟨u3, u4, u5, e1⟩, e2, e3⟩
      subst e1 e2
      (repeat decreasing_trivial_pre_omega)
      rw [← e3] at hq
      exact hq
theorem lput_ok {C : CE} {nx bk ct : SU → Hm → Prop} {rt : QU} {M : Hm} {m ml : Addr} {room : Nat} {P : List Pap} {tb : Option (List Ent)} {p : Pap} (h : MoAt M m ml room P tb) (hne : m ≠ ml) (hl : P.length ≤ 1000) (hP : ∀ q ∈ P, PapOk q) (hp : PapOk p)
    (h1 : p ∈ P → rt (.bl false) M) (h2 : p ∉ P → rt (.bl true) (um M ml (.lst ((putP room P p).map papU)))) : wS C B_law_put ⟨nx, rt, bk, ct⟩ (startU 2 [.ref m, papU p]) M := by
  have hlim : LIM = 100000 := rfl
  obtain ⟨ho, hps⟩ := h
  unfold B_law_put
  (repeat decreasing_trivial_pre_omega)
  refine in_lst hps (pap_okU hp 57) (paps_okL hP) ?_
  by_cases hin : p ∈ P
  · refine i_ift (by rw [decide_eq_true (mem_paps.mpr hin)]) ?_
    (repeat decreasing_trivial_pre_omega)
    exact h1 hin
  · have h2 := h2 hin
    refine i_iff (by rw [decide_eq_false fun z => hin (mem_paps.mp z)]) ?_
    (repeat decreasing_trivial_pre_omega)
    refine m_app hps (by rw [List.length_map]; omega) ?_
    rw [show P.map papU ++ [papU p] = (P ++ [p]).map papU by simp]
    have ho2 := um_oth (o := .lst ((P ++ [p]).map papU)) hne ho
    have hps2 := um_same (M := M) (a := ml) (o := .lst ((P ++ [p]).map papU))
    unfold putP at h2
    (repeat decreasing_trivial_pre_omega)
    rw [List.length_map]
    by_cases hr : room < (P ++ [p]).length
    · rw [if_pos hr] at h2
      have hr2 : room < P.length + 1 := by simpa using hr
      refine i_ift (by simp; omega) ?_
      (repeat decreasing_trivial_pre_omega)
      refine m_popAt (k := 0) (x := papU ((P ++ [p])[0]'(by simp))) hps2 (by rw [List.length_map, List.length_append]; simp; omega) (by unfold ixN; rw [if_pos (by decide), if_pos (by rw [List.length_map, List.length_append]; simp <;> omega)]; rfl) (by rw [List.getElem?_map, List.getElem?_eq_getElem (by simp)]; rfl) ?_
      rw [um_um]
      (repeat decreasing_trivial_pre_omega)
      have : ((P ++ [p]).map papU).eraseIdx 0 = ((P ++ [p]).drop 1).map papU := by rw [List.eraseIdx_zero, ← List.drop_one, List.map_drop]
      rw [this]
      exact h2
    · rw [if_neg hr] at h2
      have hr2 : ¬ room < P.length + 1 := by simpa using hr
      refine i_iff (by simp; omega) ?_
      (repeat decreasing_trivial_pre_omega)
      exact h2
/-! both sides -/
def CAnsC (C : CE) (f : Nat) : Prop := ∀ (M : Hm) (a pl : Addr) (room : Nat) (P : List Pap) (tb : Option (List Ent)) (r : Str) (ev : List Ev) (Q : QU), CaAt M a pl room P tb → (∀ p ∈ P, PapOk p) → TbOk tb → TrOk ev → Q (optS (ansT P tb r ev)) M → C f [.ref a, .str r, trU ev] M Q
def LAnsC (C : CE) (f : Nat) : Prop := ∀ (M : Hm) (m ml : Addr) (room : Nat) (P : List Pap) (tb : Option (List Ent)) (r : Str) (ev : List Ev) (Q : QU), MoAt M m ml room P tb → (∀ p ∈ P, PapOk p) → TbOk tb → TrOk ev → Q (optS (ansT P tb r ev)) M → C f [.ref m, .str r, trU ev] M Q
theorem okV_optS (o : Option Sp) (n : Nat) : okV (n + 1) (optS o) = true := by
  cases o with
  | none => rfl
  | some s => cases s <;> simp [optS, encS, okV, LIM]
theorem ahold_ok {C : CE} {fs fl fc : Nat} (hS : ∀ n, n ≤ 6 → SameE C fs n) (hL : LAnsC C fl) (hC : CAnsC C fc) {nx bk ct : SU → Hm → Prop} {rt : QU} {M : Hm} {a pl m ml : Addr} {room : Nat} {P : List Pap} {tb : Option (List Ent)} {r : Str} {ev : List Ev} (h1 : CaAt M a pl room P tb) (h2 : MoAt M m ml room P tb) (hP : ∀ p ∈ P, PapOk p) (hT : TbOk tb) (he : TrOk ev) (hq : rt (.bl true) M) :
    wS C (B_law_answers_hold fs fl fc) ⟨nx, rt, bk, ct⟩ (startU 4 [.ref a, .ref m, .str r, trU ev]) M := by
  have hob := h1.ob
  unfold B_law_answers_hold
  (repeat decreasing_trivial_pre_omega)
  refine hC _ _ _ _ _ _ _ _ _ h1 hP hT he ?_
  (repeat decreasing_trivial_pre_omega)
  refine hL _ _ _ _ _ _ _ _ _ h2 hP hT he ?_
  (repeat decreasing_trivial_pre_omega)
  exact hS 1 (by decide) _ _ _ (okV_optS _ 0) hq
end K71

set_option maxHeartbeats 1000000
/-! k71: both sides hold -/
namespace K71
open PySem L2 Pl
def B_law_filled (law_state_holds : Nat) (law_same : Nat) (law_put : Nat) (Cache_put : Nat) : S := (.seq (.for_ (.one 4) (.iRange (.int 62)) (.seq (.asg 5 (.tup (.cons (.var 3) (.cons (.tup (.cons (.tup (.cons (.str "see") (.cons (.ix (.var 0) (.bin .mod (.blt .int (.cons (.var 4) .nil)) (.int 20))) (.cons (.bin .sub (.bin .fdiv (.var 4) (.int 20)) (.int 1)) .nil)))) .nil)) .nil)))) (.seq (.ifs (.not (.call law_same (.cons (.meth "Cache" "put" Cache_put (.var 2) (.cons (.var 5) .nil)) (.cons (.call law_put (.cons (.var 1) (.cons (.var 5) .nil))) .nil)))) (.seq (.ret (.bl false)) .skip) .skip) .skip))) (.seq (.ret (.call law_state_holds (.cons (.var 2) (.cons (.var 1) .nil)))) .skip))
theorem foundT_mem {P : List Pap} {r : Str} {ev : List Ev} {s : Sp} : s ∈ foundT P r ev ↔ ∃ p ∈ P, (if p.1 = r then nextT p.2 ev else none) = some s := by
  induction P using snocs with
  | h0 => simp [foundT]
  | h1 P p ih =>
    rw [foundT_snoc]
    cases h : (if p.1 = r then nextT p.2 ev else none) with
    | none =>
      simp only
      rw [ih]
      refine ⟨fun ⟨q, h1, h2⟩ => ⟨q, List.mem_append_left _ h1, h2⟩, fun ⟨q, h1, h2⟩ => ?_⟩
      rcases List.mem_append.mp h1 with h1 | h1
      · exact ⟨q, h1, h2⟩
      · rw [List.mem_singleton.mp h1, h] at h2; cases h2
    | some s' =>
      simp only
      have key : s ∈ foundT P r ev ∨ s = s' ↔ ∃ q ∈ P ++ [p], (if q.1 = r then nextT q.2 ev else none) = some s := by
        rw [ih]
        constructor
        · rintro (⟨q, h1, h2⟩ | rfl)
          · exact ⟨q, List.mem_append_left _ h1, h2⟩
          · exact ⟨p, by simp, h⟩
        · rintro ⟨q, h1, h2⟩
          rcases List.mem_append.mp h1 with h1 | h1
          · exact .inl ⟨q, h1, h2⟩
          · rw [List.mem_singleton.mp h1, h] at h2
            exact .inr (Option.some.inj h2).symm
      rw [← key]
      split
      · rename_i hin
        exact ⟨.inl, fun z => z.elim id fun e => by rw [e]; exact hin⟩
      · rw [List.mem_append, List.mem_singleton]
theorem first_found {P : List Pap} {r : Str} {ev : List Ev} : (firstT P r ev = none ∧ foundT P r ev = []) ∨ ∃ s, firstT P r ev = some s ∧ s ∈ foundT P r ev := by
  cases h : firstT P r ev with
  | none =>
    left
    refine ⟨rfl, List.eq_nil_iff_forall_not_mem.mpr fun s hs => ?_⟩
    obtain ⟨p, h1, h2⟩ := foundT_mem.mp hs
    unfold firstT at h
    rw [List.findSome?_eq_none_iff] at h
    rw [h p h1] at h2
    cases h2
  | some s =>
    right
    refine ⟨s, rfl, ?_⟩
    unfold firstT at h
    obtain ⟨p, h1, h2⟩ := List.exists_of_findSome?_eq_some h
    exact foundT_mem.mpr ⟨p, h1, h2⟩
theorem okV_S (s : Sp) (n : Nat) : okV (n + 1) (encS s) = true := okV_optS (some s) n
theorem okV_E (e : Ev) (n : Nat) : okV (n + 1) (encE e) = true := by cases e <;> simp [encE, okV, LIM]
theorem okV_Ss (l : List Sp) (hl : l.length ≤ 1000) : okV 2 (.tup (sortU (l.map encS))) = true := by
  rw [sortU_map]
  have := (sortT_perm encS l).length_eq
  simp only [okV, Bool.and_eq_true, decide_eq_true_eq, List.all_eq_true, List.length_map]
  refine ⟨by unfold LIM; omega, fun x hx => ?_⟩
  obtain ⟨s, _, rfl⟩ := List.mem_map.mp hx
  exact okV_S s 0
theorem okV_P (P : List Pap) (hl : P.length ≤ 1000) (hP : ∀ p ∈ P, PapOk p) : okV 4 (.tup (P.map papU)) = true := by
  simp only [okV, Bool.and_eq_true, decide_eq_true_eq, List.all_eq_true, List.length_map]
  refine ⟨by unfold LIM; omega, fun x hx => ?_⟩
  obtain ⟨p, hp, rfl⟩ := List.mem_map.mp hx
  have h2 : okV 2 (trU p.2) = true := by
    unfold trU
    simp only [okV, Bool.and_eq_true, decide_eq_true_eq, List.all_eq_true, List.length_map]
    have := (hP p hp).2.1
    refine ⟨by unfold LIM; omega, fun x hx => ?_⟩
    obtain ⟨e, _, rfl⟩ := List.mem_map.mp hx
    exact okV_E e 0
  simp [papU, okV, h2, LIM]
theorem ss_okL {l : List Sp} (h : ∀ s ∈ l, s.ok) : okL (l.map encS) = true := okL_of fun y hy => by
  obtain ⟨s, hs, rfl⟩ := List.mem_map.mp hy
  exact encS_okU (h s hs) 58
theorem mem_ss {l : List Sp} {s : Sp} : encS s ∈ l.map encS ↔ s ∈ l := ⟨fun h => by
  obtain ⟨q, h1, h2⟩ := List.mem_map.mp h
  rw [← encS_inj _ _ h2]; exact h1, fun h => List.mem_map.mpr ⟨_, h, rfl⟩⟩
theorem fhold_ok {C : CE} {fc fs ff fn : Nat} (hC : CAnsC C fc) (hS : ∀ n, n ≤ 6 → SameE C fs n) (hF : FollowC C ff) (hN : AfterC C fn) {nx bk ct : SU → Hm → Prop} {rt : QU} {M : Hm} {sh a pl m ml : Addr} {room : Nat} {P Ps : List Pap} {tb : Option (List Ent)} {r : Str} {ev : List Ev}
    (h1 : CaAt M a pl room P tb) (h2 : MoAt M m ml room P tb) (h3 : ShAt M sh P) (hl : P.length ≤ 1000) (hP : ∀ p ∈ P, PapOk p) (hT : TbOk tb) (he : TrOk ev) (hq : ∀ M', Sub M M' → rt (.bl true) M') :
    wS C (B_law_follow_holds fc fs ff fn) ⟨nx, rt, bk, ct⟩ (startU 9 [.ref sh, .ref a, .ref m, .str r, trU ev]) M := by
  have hlim : LIM = 100000 := rfl
  have hob := h2.ob
  have hps := h2.ps
  unfold B_law_follow_holds
  (repeat decreasing_trivial_pre_omega)
  intro fl hfl
  have hps1 := um_old (o := .lst []) hps hfl
  have hob1 := um_old (o := .lst []) hob hfl
  (repeat decreasing_trivial_pre_omega)
  refine forL_by (enc := papU) (fun don rest σ M' => (∃ u6 u7 u8, σ = [some (.ref sh), some (.ref a), some (.ref m), some (.str r), some (trU ev), some (.ref fl), u6, u7, u8]) ∧ M' fl = some (.lst ((foundT don r ev).map encS)) ∧ Sub M M') P ⟨⟨_, _, _, rfl⟩, um_same, sub_new (Sub.refl _) hfl⟩ ?_ ?_
  · intro don x rest σ M' k e ⟨⟨u6, u7, u8, e1⟩, e2, e3⟩ hk
    subst e1
    have hx := hP x (by rw [← e]; simp)
    have hdl : don.length + rest.length + 1 = P.length := by rw [← e]; simp; omega
    have hfd := foundT_len don r ev
    have okd := foundT_ok (P := don) (r := r) (ev := ev) fun p hp => hP p (by rw [← e]; exact List.mem_append_left _ hp)
    have hps' := e3 _ _ hps
    have sn := foundT_snoc don x r ev
    simp only [papU]
    (repeat decreasing_trivial_pre_omega)
    by_cases h : x.1 = r
    · (repeat decreasing_trivial_pre_omega)
      refine hN _ _ _ _ hx.2 he ?_
      rw [if_pos h] at sn
      cases hn : nextT x.2 ev with
      | none =>
        rw [hn] at sn
        simp only at sn
        simp only [optS]
        (repeat decreasing_trivial_pre_omega)
        exact hk _ _ hps' ⟨⟨_, _, _, rfl⟩, by rw [sn]; exact e2, e3⟩
      | some s =>
        rw [hn] at sn
        simp only at sn
        simp only [optS]
        have hnn := encS_non s
        have hso := nextT_ok hx.2 hn
        (repeat decreasing_trivial_pre_omega)
        refine nin_lst e2 (encS_okU hso 59) (ss_okL okd) ?_
        by_cases hin : s ∈ foundT don r ev
        · rw [if_pos hin] at sn
          refine i_iff (by rw [decide_eq_true (mem_ss.mpr hin)]; rfl) ?_
          (repeat decreasing_trivial_pre_omega)
          exact hk _ _ hps' ⟨⟨_, _, _, rfl⟩, by rw [sn]; exact e2, e3⟩
        · rw [if_neg hin] at sn
          refine i_ift (by rw [decide_eq_false fun z => hin (mem_ss.mp z)]; rfl) ?_
          (repeat decreasing_trivial_pre_omega)
          refine m_app e2 (by rw [List.length_map]; omega) ?_
          (repeat decreasing_trivial_pre_omega)
          have hne : ml ≠ fl := fun z => by rw [z, hfl] at hps; cases hps
          exact hk _ _ (um_oth hne hps') ⟨⟨_, _, _, rfl⟩, by rw [um_same, sn, List.map_append]; rfl, sub_um e3 hfl⟩
    · rw [if_neg h] at sn
      simp only at sn
      (repeat decreasing_trivial_pre_omega)
      exact hk _ _ hps' ⟨⟨_, _, _, rfl⟩, by rw [sn]; exact e2, e3⟩
  · intro σ M' ⟨⟨u6, u7, u8, e1⟩, e2, e3⟩
    subst e1
    have hfd := foundT_len P r ev
    have okd := foundT_ok (r := r) (ev := ev) hP
    obtain ⟨hd, hsh⟩ := h3
    have hsh' := e3 _ _ hsh
    (repeat decreasing_trivial_pre_omega)
    refine hF M' sh P r ev _ ⟨hd, hsh'⟩ hl hP he fun M2 s2 => ?_
    have e22 := s2 _ _ e2
    (repeat decreasing_trivial_pre_omega)
    refine f_sortL e22 (sortOk_S okd (by omega)) ?_
    intro q hq0
    (repeat decreasing_trivial_pre_omega)
    refine hS 2 (by decide) _ _ _ (okV_Ss _ (by omega)) ?_
    have ee : Sub M (um M2 q (.lst (sortU ((foundT P r ev).map encS)))) := sub_new (e3.trans s2) hq0
    have e23 := um_old (o := .lst (sortU ((foundT P r ev).map encS))) e22 hq0
    generalize um M2 q (.lst (sortU ((foundT P r ev).map encS))) = M3 at ee e23 ⊢
    have ha3 := ee _ _ h1.ob
    have hob3 := ee _ _ hob
    have hca : CaAt M3 a pl room P tb := ⟨ha3, ee _ _ h1.ps⟩
    (repeat decreasing_trivial_pre_omega)
    refine hC M3 a pl room P tb r ev _ hca hP hT he ?_
    have fin := hq M3 ee
    cases tb with
    | some T =>
      simp only [tabU] at hob3
      (repeat decreasing_trivial_pre_omega)
      exact fin
    | none =>
      simp only [tabU] at hob3
      show _
      have : ansT P none r ev = firstT P r ev := rfl
      rw [this]
      rcases first_found (P := P) (r := r) (ev := ev) with ⟨g1, g2⟩ | ⟨s, g1, g2⟩
      · rw [g1]
        have g3 : (foundT P r ev).map encS = [] := by rw [g2]; rfl
        rw [g3] at e23
        simp only [optS]
        (repeat decreasing_trivial_pre_omega)
        exact fin
      · rw [g1]
        have hnn := encS_non s
        simp only [optS]
        (repeat decreasing_trivial_pre_omega)
        refine in_lst e23 (encS_okU (okd s g2) 59) (ss_okL okd) ?_
        rw [decide_eq_true (mem_ss.mpr g2)]
        exact fin
def CPapC (C : CE) (f : Nat) : Prop := ∀ (M : Hm) (a pl : Addr) (room : Nat) (P : List Pap) (tb : Option (List Ent)) (Q : QU), CaAt M a pl room P tb → Q (.tup (P.map papU)) M → C f [.ref a] M Q
def CHonC (C : CE) (f : Nat) : Prop := ∀ (M : Hm) (a pl : Addr) (room : Nat) (P : List Pap) (tb : Option (List Ent)) (Q : QU), CaAt M a pl room P tb → Q (.bl (decide (tabU tb = .non))) M → C f [.ref a] M Q
theorem shold_ok {C : CE} {fs fh fp : Nat} (hS : ∀ n, n ≤ 6 → SameE C fs n) (hH : CHonC C fh) (hPp : CPapC C fp) {nx bk ct : SU → Hm → Prop} {rt : QU} {M : Hm} {a pl m ml : Addr} {room : Nat} {P : List Pap} {tb : Option (List Ent)} (h1 : CaAt M a pl room P tb) (h2 : MoAt M m ml room P tb) (hl : P.length ≤ 1000) (hP : ∀ p ∈ P, PapOk p) (hq : rt (.bl true) M) :
    wS C (B_law_state_holds fs fh fp) ⟨nx, rt, bk, ct⟩ (startU 2 [.ref a, .ref m]) M := by
  have hob := h2.ob
  have hps := h2.ps
  have hca := h1.ob
  unfold B_law_state_holds
  (repeat decreasing_trivial_pre_omega)
  refine hPp _ _ _ _ _ _ _ h1 ?_
  (repeat decreasing_trivial_pre_omega)
  refine hS 4 (by decide) _ _ _ (okV_P P hl hP) ?_
  (repeat decreasing_trivial_pre_omega)
  refine hH _ _ _ _ _ _ _ h1 ?_
  (repeat decreasing_trivial_pre_omega)
  exact hS 0 (by decide) _ _ _ rfl hq
def AHoldC (C : CE) (f : Nat) : Prop := ∀ (M : Hm) (a pl m ml : Addr) (room : Nat) (P : List Pap) (tb : Option (List Ent)) (r : Str) (ev : List Ev) (Q : QU), CaAt M a pl room P tb → MoAt M m ml room P tb → (∀ p ∈ P, PapOk p) → TbOk tb → TrOk ev → Q (.bl true) M → C f [.ref a, .ref m, .str r, trU ev] M Q
def SHoldC (C : CE) (f : Nat) : Prop := ∀ (M : Hm) (a pl m ml : Addr) (room : Nat) (P : List Pap) (tb : Option (List Ent)) (Q : QU), CaAt M a pl room P tb → MoAt M m ml room P tb → P.length ≤ 1000 → (∀ p ∈ P, PapOk p) → Q (.bl true) M → C f [.ref a, .ref m] M Q
def FHoldC (C : CE) (f : Nat) : Prop := ∀ (M : Hm) (sh a pl m ml : Addr) (room : Nat) (P : List Pap) (tb : Option (List Ent)) (r : Str) (ev : List Ev) (Q : QU), CaAt M a pl room P tb → MoAt M m ml room P tb → ShAt M sh P → P.length ≤ 1000 → (∀ p ∈ P, PapOk p) → TbOk tb → TrOk ev → (∀ M', Sub M M' → Q (.bl true) M') → C f [.ref sh, .ref a, .ref m, .str r, trU ev] M Q
end K71

set_option maxHeartbeats 1000000
/-! k71: what is drawn -/
namespace K71
open PySem L2 Pl
def B_law_any_step (law_pick : Nat) (law_draw : Nat) : S := (.seq (.asg 2 (.call law_draw (.cons (.var 0) (.cons (.int 6) .nil)))) (.seq (.asg 3 (.call law_pick (.cons (.var 0) (.cons (.var 1) .nil)))) (.seq (.ifs (.cmp .eq (.var 2) (.int 0)) (.seq (.ret (.tup (.cons (.str "ask") (.cons (.var 3) .nil)))) .skip) .skip) (.seq (.ifs (.cmp .eq (.var 2) (.int 1)) (.seq (.ret (.tup (.cons (.str "done") .nil))) .skip) .skip) (.seq (.ifs (.cmp .lt (.var 2) (.int 4)) (.seq (.ret (.tup (.cons (.str "see") (.cons (.var 3) .nil)))) .skip) .skip) (.seq (.ret (.tup (.cons (.str "put") (.cons (.var 3) (.cons (.call law_pick (.cons (.var 0) (.cons (.lst (.cons (.int 0) (.cons (.int 1) (.cons (.int 2) (.cons (.int 3) (.cons (.int 4) (.cons (.neg (.int 1)) (.cons (.neg (.int 1000)) (.cons (.int 1000) .nil))))))))) .nil))) .nil))))) .skip))))))
def B_law_paper_pool (law_draw : Nat) (law_pick : Nat) : S := (.seq (.asg 3 (.lst (.cons (.tup (.cons (.str "ask") (.cons (.ix (.var 1) (.int 1)) .nil))) (.cons (.tup (.cons (.str "ask") (.cons (.ix (.var 1) (.int 2)) .nil))) (.cons (.tup (.cons (.str "see") (.cons (.ix (.var 2) (.int 0)) (.cons (.neg (.int 1)) .nil)))) (.cons (.tup (.cons (.str "see") (.cons (.ix (.var 2) (.int 0)) (.cons (.int 0) .nil)))) (.cons (.tup (.cons (.str "see") (.cons (.ix (.var 2) (.int 1)) (.cons (.int 0) .nil)))) .nil))))))) (.seq (.asg 3 (.bin .add (.var 3) (.lst (.cons (.tup (.cons (.str "put") (.cons (.ix (.var 2) (.int 0)) (.cons (.int 0) .nil)))) (.cons (.tup (.cons (.str "put") (.cons (.ix (.var 2) (.int 0)) (.cons (.int 1) .nil)))) (.cons (.tup (.cons (.str "put") (.cons (.ix (.var 2) (.int 1)) (.cons (.int 0) .nil)))) (.cons (.tup (.cons (.str "see") (.cons (.ix (.var 1) (.int 1)) (.cons (.int 0) .nil)))) .nil))))))) (.seq (.asg 4 (.lst .nil)) (.seq (.for_ (.one 5) (.iRange (.int 7)) (.seq (.asg 6 (.lst .nil)) (.seq (.ifs (.ands (.cons (.var 4) (.cons (.cmp .ne (.call law_draw (.cons (.var 0) (.cons (.int 3) .nil))) (.int 1)) .nil))) (.seq (.asg 6 (.blt .list (.cons (.ix (.call law_pick (.cons (.var 0) (.cons (.var 4) .nil))) (.int 1)) .nil))) (.seq (.asg 6 (.slice (.var 6) .nil (.call law_draw (.cons (.var 0) (.cons (.bin .add (.blt .len (.cons (.var 6) .nil)) (.int 1)) .nil))))) .skip)) .skip) (.seq (.for_ (.one 7) (.iRange (.call law_draw (.cons (.var 0) (.cons (.int 5) .nil)))) (.seq (.expr (.mth .append (.var 6) (.cons (.call law_pick (.cons (.var 0) (.cons (.var 3) .nil))) .nil))) .skip)) (.seq (.expr (.mth .append (.var 4) (.cons (.tup (.cons (.ix (.var 1) (.call law_draw (.cons (.var 0) (.cons (.int 2) .nil)))) (.cons (.blt .tuple (.cons (.slice (.var 6) .nil (.int 15)) .nil)) .nil))) .nil))) .skip))))) (.seq (.ret (.var 4)) .skip)))))
def B_law_events (law_draw : Nat) (law_pick : Nat) : S := (.seq (.asg 2 (.call law_pick (.cons (.var 0) (.cons (.var 1) .nil)))) (.seq (.asg 3 (.call law_pick (.cons (.var 0) (.cons (.var 1) .nil)))) (.seq (.asg 4 (.slice (.ix (.var 2) (.int 1)) .nil (.call law_draw (.cons (.var 0) (.cons (.bin .add (.blt .len (.cons (.ix (.var 2) (.int 1)) .nil)) (.int 1)) .nil))))) (.seq (.asg 5 (.call law_draw (.cons (.var 0) (.cons (.int 6) .nil)))) (.seq (.ifs (.cmp .eq (.var 5) (.int 1)) (.seq (.ret (.tup (.cons (.ix (.var 3) (.int 0)) (.cons (.var 4) .nil)))) .skip) .skip) (.seq (.ifs (.ands (.cons (.cmp .eq (.var 5) (.int 2)) (.cons (.cmp .gt (.blt .len (.cons (.var 4) .nil)) (.int 0)) .nil))) (.seq (.ret (.tup (.cons (.ix (.var 2) (.int 0)) (.cons (.bin .add (.slice (.var 4) .nil (.bin .sub (.blt .len (.cons (.var 4) .nil)) (.int 1))) (.slice (.ix (.var 3) (.int 1)) .nil (.int 1))) .nil)))) .skip) .skip) (.seq (.ifs (.cmp .eq (.var 5) (.int 3)) (.seq (.ret (.tup (.cons (.ix (.var 2) (.int 0)) (.cons (.bin .add (.ix (.var 2) (.int 1)) (.slice (.ix (.var 3) (.int 1)) .nil (.int 1))) .nil)))) .skip) .skip) (.seq (.ret (.tup (.cons (.ix (.var 2) (.int 0)) (.cons (.var 4) .nil)))) .skip))))))))
def B_law_table (law_draw : Nat) (law_any_step : Nat) (law_events : Nat) : S := (.seq (.asg 3 (.lst .nil)) (.seq (.for_ (.one 4) (.iRange (.call law_draw (.cons (.var 0) (.cons (.int 5) .nil)))) (.seq (.asgT [5, 6] (.call law_events (.cons (.var 0) (.cons (.var 1) .nil)))) (.seq (.expr (.mth .append (.var 3) (.cons (.tup (.cons (.var 5) (.cons (.var 6) (.cons (.call law_any_step (.cons (.var 0) (.cons (.var 2) .nil))) .nil)))) .nil))) .skip))) (.seq (.ifs (.ands (.cons (.var 3) (.cons (.cmp .eq (.call law_draw (.cons (.var 0) (.cons (.int 2) .nil))) (.int 1)) .nil))) (.seq (.asg 7 (.ix (.var 3) (.int 0))) (.seq (.expr (.mth .append (.var 3) (.cons (.tup (.cons (.ix (.var 7) (.int 0)) (.cons (.ix (.var 7) (.int 1)) (.cons (.call law_any_step (.cons (.var 0) (.cons (.var 2) .nil))) .nil)))) .nil))) .skip)) .skip) (.seq (.ret (.blt .tuple (.cons (.var 3) .nil))) .skip))))
def NamesAt (M : Hm) (r : Addr) (l : List Str) : Prop := M r = some (.lst (l.map U.str))
def PolOk (p : Pap) : Prop := okS p.1 = true ∧ p.2.length ≤ 15 ∧ ∀ e ∈ p.2, e.ok
theorem PolOk.pap {p : Pap} (h : PolOk p) : PapOk p := ⟨h.1, by have := h.2.1; omega, h.2.2⟩
theorem mem_at {us : List U} {α : Type} {enc : α → U} {l : List α} {x : U} (h : x ∈ us) (e : us = l.map enc) : ∃ a ∈ l, x = enc a := by
  rw [e] at h
  obtain ⟨a, h1, h2⟩ := List.mem_map.mp h
  exact ⟨a, h1, h2.symm⟩
def PoolC (C : CE) (f : Nat) : Prop := ∀ (M : Hm) (p : Addr × Addr) (na fa : Addr) (nl fl : List Str) (Q : QU), Dr M p → na ≠ p.1 → fa ≠ p.1 → M na = some (.lst (nl.map U.str)) → nl.length = 16 → (∀ x ∈ nl, okS x = true) → M fa = some (.lst (fl.map U.str)) → fl.length = 20 → (∀ x ∈ fl, okS x = true) →
  (∀ r (P : List Pap) M', M r = none → M' r = some (.lst (P.map papU)) → P.length = 7 → (∀ q ∈ P, PolOk q) → Dr M' p → Fr p M M' → Q (.ref r) M') → C f [.ref p.1, .ref na, .ref fa] M Q
theorem pool_ok {C : CE} {fd fp : Nat} (hd : DrawC C fd) (hp : PickC C fp) {nx bk ct : SU → Hm → Prop} {rt : QU} {M : Hm} {p : Addr × Addr} {na fa : Addr} {nl fl : List Str} (d : Dr M p) (nn : na ≠ p.1) (fn : fa ≠ p.1) (hn : M na = some (.lst (nl.map U.str))) (hnl : nl.length = 16) (hno : ∀ x ∈ nl, okS x = true) (hf : M fa = some (.lst (fl.map U.str))) (hfl : fl.length = 20) (hfo : ∀ x ∈ fl, okS x = true)
    (hq : ∀ r (P : List Pap) M', M r = none → M' r = some (.lst (P.map papU)) → P.length = 7 → (∀ q ∈ P, PolOk q) → Dr M' p → Fr p M M' → rt (.ref r) M') : wS C (B_law_paper_pool fd fp) ⟨nx, rt, bk, ct⟩ (startU 8 [.ref p.1, .ref na, .ref fa]) M := by
  have hlim : LIM = 100000 := rfl
  have nget : ∀ {i : Nat} (h : i < nl.length), atI (nl.map U.str) (i : Int) = some (.str nl[i]) := fun h => by rw [Pl.atI_nat (by rw [List.length_map]; exact h), List.getElem_map]
  have fget : ∀ {i : Nat} (h : i < fl.length), atI (fl.map U.str) (i : Int) = some (.str fl[i]) := fun h => by rw [Pl.atI_nat (by rw [List.length_map]; exact h), List.getElem_map]
  have i1 : 1 < nl.length := by omega
  have i2 : 2 < nl.length := by omega
  have j0 : 0 < fl.length := by omega
  have j1 : 1 < fl.length := by omega
  have on1 := hno _ (List.getElem_mem i1)
  have on2 := hno _ (List.getElem_mem i2)
  have of0 := hfo _ (List.getElem_mem j0)
  have of1 := hfo _ (List.getElem_mem j1)
  unfold B_law_paper_pool
  (repeat decreasing_trivial_pre_omega)
  refine x_lst hn (nget (i := 1) i1) ?_
  (repeat decreasing_trivial_pre_omega)
  refine x_lst hn (nget (i := 2) i2) ?_
  (repeat decreasing_trivial_pre_omega)
  refine x_lst hf (fget (i := 0) j0) ?_
  (repeat decreasing_trivial_pre_omega)
  refine x_lst hf (fget (i := 0) j0) ?_
  (repeat decreasing_trivial_pre_omega)
  refine x_lst hf (fget (i := 1) j1) ?_
  (repeat decreasing_trivial_pre_omega)
  intro e1 he1
  generalize hE1 : ([U.tup [.str "ask", .str nl[1]], .tup [.str "ask", .str nl[2]], .tup [.str "see", .str fl[0], .int (-1)], .tup [.str "see", .str fl[0], .int 0], .tup [.str "see", .str fl[1], .int 0]] : List U) = L1 at *
  have d1 := d.upd (o := .lst L1) he1
  have hn1 := um_old (o := .lst L1) hn he1
  have hf1 := um_old (o := .lst L1) hf he1
  have g1 := um_same (M := M) (a := e1) (o := .lst L1)
  (repeat decreasing_trivial_pre_omega)
  refine x_lst hf1 (fget (i := 0) j0) ?_
  (repeat decreasing_trivial_pre_omega)
  refine x_lst hf1 (fget (i := 0) j0) ?_
  (repeat decreasing_trivial_pre_omega)
  refine x_lst hf1 (fget (i := 1) j1) ?_
  (repeat decreasing_trivial_pre_omega)
  refine x_lst hn1 (nget (i := 1) i1) ?_
  (repeat decreasing_trivial_pre_omega)
  intro e2 he2
  generalize hE2 : ([U.tup [.str "put", .str fl[0], .int 0], .tup [.str "put", .str fl[0], .int 1], .tup [.str "put", .str fl[1], .int 0], .tup [.str "see", .str nl[1], .int 0]] : List U) = L2 at *
  have d2 := d1.upd (o := .lst L2) he2
  have hn2 := um_old (o := .lst L2) hn1 he2
  have g2 := um_old (o := .lst L2) g1 he2
  have g3 := um_same (M := um M e1 (.lst L1)) (a := e2) (o := .lst L2)
  refine o_addL g2 g3 (by rw [← hE1, ← hE2]; simp [LIM]) fun ea hea => ?_
  obtain ⟨E, hE, hEo, hEl⟩ : ∃ E : List Ev, L1 ++ L2 = E.map encE ∧ (∀ e ∈ E, e.ok) ∧ E.length = 9 := by
    refine ⟨[.ask nl[1], .ask nl[2], .see fl[0] (-1), .see fl[0] 0, .see fl[1] 0, .put fl[0] 0, .put fl[0] 1, .put fl[1] 0, .see nl[1] 0], by rw [← hE1, ← hE2]; rfl, fun e he => ?_, rfl⟩
    simp only [List.mem_cons, List.not_mem_nil, or_false] at he
    rcases he with rfl | rfl | rfl | rfl | rfl | rfl | rfl | rfl | rfl <;> assumption
  rw [hE]
  have d3 := d2.upd (o := .lst (E.map encE)) hea
  have hn3 := um_old (o := .lst (E.map encE)) hn2 hea
  have ge := um_same (M := um (um M e1 (.lst L1)) e2 (.lst L2)) (a := ea) (o := .lst (E.map encE))
  have en := d2.ne hea
  have F3 : Fr p M (um (um (um M e1 (.lst L1)) e2 (.lst L2)) ea (.lst (E.map encE))) := (sub_new (sub_new (sub_new (Sub.refl _) he1) he2) hea).fr
  generalize um (um (um M e1 (.lst L1)) e2 (.lst L2)) ea (.lst (E.map encE)) = M3 at *
  clear g1 g2 g3 hn1 hf1 hn2 d1 d2 he1 he2 hea hE
  (repeat decreasing_trivial_pre_omega)
  intro fo hfo0
  have fon := d3.ne hfo0
  have fon2 := d3.ne2 hfo0
  have d4 := d3.upd (o := .lst []) hfo0
  have hfoM : M fo = none := F3.non fon hfo0
  have hfoM3 : M3 fo = none := hfo0
  have hnf : na ≠ fo := fun z => by rw [z, hfo0] at hn3; cases hn3
  have hef : ea ≠ fo := fun z => by rw [z, hfo0] at ge; cases ge
  (repeat decreasing_trivial_pre_omega)
  refine ⟨by decide, by decide, ?_⟩
  refine forL_nat (n := 7) (fun i σ M' => (∃ u5 u6 u7, σ = [some (.ref p.1), some (.ref na), some (.ref fa), some (.ref ea), some (.ref fo), u5, u6, u7]) ∧ ∃ P : List Pap, P.length = i ∧ (∀ q ∈ P, PolOk q) ∧ M' fo = some (.lst (P.map papU)) ∧ M' na = some (.lst (nl.map U.str)) ∧ M' ea = some (.lst (E.map encE)) ∧ Dr M' p ∧ Fr p M M')
    ⟨⟨_, _, _, rfl⟩, [], rfl, (fun q h => nomatch h), um_same, um_old hn3 hfo0, um_old ge hfo0, d4, F3.upd hfoM⟩ ?_ ?_
  · intro i σ M' k hi ⟨⟨u5, u6, u7, e⟩, P, hPl, hPo, h1, h2, h3, h4, h5⟩ hk
    subst e
    (repeat ((fail_if_success (with_reducible refine Pl.z_ifs ?_)); decreasing_trivial_pre_omega))
    intro tr htr
    have trn := h4.ne htr
    have d5 := h4.upd (o := .lst []) htr
    (repeat ((fail_if_success (with_reducible refine Pl.z_ifs ?_)); decreasing_trivial_pre_omega))
    refine z_cutR fun R eR => ?_
    have key : ∀ (t : List Ev) (ta : Addr) (M : Hm), t.length ≤ 15 → (∀ e ∈ t, e.ok) → M ta = some (.lst (t.map encE)) → ta ≠ p.1 → ta ≠ p.2 → ta ≠ fo → ta ≠ na → ta ≠ ea → M' ta = none → M fo = some (.lst (P.map papU)) → M na = some (.lst (nl.map U.str)) → M ea = some (.lst (E.map encE)) → Dr M p → Fr p M' M →
        R [some (.ref p.1), some (.ref na), some (.ref fa), some (.ref ea), some (.ref fo), some (.int (i : Nat)), some (.ref ta), u7] M := by
      rw [eR]
      intro t ta M8 ht hto hta n1 n2 n3 n4 n5 n6 k1 k2 k3 d8 f8
      (repeat decreasing_trivial_pre_omega)
      refine hd.lt M8 p 5 _ d8 (by decide) (by decide) fun many M9 hmany d9 f9 => ?_
      (repeat decreasing_trivial_pre_omega)
      refine ⟨by omega, by omega, ?_⟩
      refine forL_nat (fun j σ M => (∃ u7, σ = [some (.ref p.1), some (.ref na), some (.ref fa), some (.ref ea), some (.ref fo), some (.int (i : Nat)), some (.ref ta), u7]) ∧ ∃ t : List Ev, t.length ≤ 15 + j ∧ (∀ e ∈ t, e.ok) ∧ M ta = some (.lst (t.map encE)) ∧ M fo = some (.lst (P.map papU)) ∧ M na = some (.lst (nl.map U.str)) ∧ M ea = some (.lst (E.map encE)) ∧ Dr M p ∧ Fr p M' M) many
        ⟨⟨_, rfl⟩, t, by omega, hto, f9.at_ n1 hta, f9.at_ fon k1, f9.at_ nn k2, f9.at_ en k3, d9, f8.trans f9⟩ ?_ ?_
      · intro j σ M10 k3' hj ⟨⟨u7, e⟩, t, q1, q2, q3, q4, q5, q6, q7, q8⟩ hk3
        subst e
        (repeat decreasing_trivial_pre_omega)
        refine hp M10 p _ _ _ q7 (.inr ⟨ea, rfl, en, q6⟩) (by intro z; have := congrArg List.length z; rw [List.length_map, hEl] at this; cases this) (by rw [List.length_map]; omega) fun u M11 hu d11 f11 => ?_
        obtain ⟨e, he, rfl⟩ := List.mem_map.mp hu
        (repeat decreasing_trivial_pre_omega)
        refine m_app (f11.at_ n1 q3) (by rw [List.length_map]; omega) ?_
        (repeat decreasing_trivial_pre_omega)
        refine hk3 _ _ trivial ⟨⟨_, rfl⟩, t ++ [e], by rw [List.length_append]; simp; omega, (fun x hx => ?_), by rw [um_same, List.map_append]; rfl, um_oth n3.symm (f11.at_ fon q4), um_oth n4.symm (f11.at_ nn q5), um_oth n5.symm (f11.at_ en q6), d11.upd2 n1 n2, (q8.trans f11).upd n6⟩
        rcases List.mem_append.mp hx with hx | hx
        · exact q2 x hx
        · rw [List.mem_singleton.mp hx]; exact hEo e he
      · intro σ M10 ⟨⟨u7, e⟩, t, q1, q2, q3, q4, q5, q6, q7, q8⟩
        subst e
        (repeat decreasing_trivial_pre_omega)
        refine hd.lt M10 p 2 _ q7 (by decide) (by decide) fun c M11 hc d11 f11 => ?_
        have hcn : c < nl.length := by omega
        (repeat decreasing_trivial_pre_omega)
        refine x_lst (f11.at_ nn q5) (nget hcn) ?_
        have t11 := f11.at_ n1 q3
        have fo11 := f11.at_ fon q4
        (repeat decreasing_trivial_pre_omega)
        rw [show (15 : Int) = ((15 : Nat) : Int) from rfl, cutU_take, ← List.map_take]
        intro sl hsl
        (repeat decreasing_trivial_pre_omega)
        have F12 : Fr p M (um M11 sl (.lst ((t.take 15).map encE))) := ((h5.trans q8).trans f11).trans (sub_new (Sub.refl _) hsl).fr
        have d12 := d11.upd (o := .lst ((t.take 15).map encE)) hsl
        refine m_app (um_old fo11 hsl) (by rw [List.length_map]; omega) ?_
        (repeat decreasing_trivial_pre_omega)
        have hfoM' : M fo = none := hfoM
        refine hk _ _ trivial ⟨⟨_, _, _, rfl⟩, P ++ [(nl[c], t.take 15)], by rw [List.length_append, hPl]; rfl, (fun x hx => ?_), by rw [um_same, List.map_append]; rfl, um_oth hnf (um_old (f11.at_ nn q5) hsl), um_oth hef (um_old (f11.at_ en q6) hsl), d12.upd2 fon fon2, F12.upd hfoM⟩
        rcases List.mem_append.mp hx with hx | hx
        · exact hPo x hx
        · rw [List.mem_singleton.mp hx]
          exact ⟨hno _ (List.getElem_mem hcn), by show (t.take 15).length ≤ 15; rw [List.length_take]; omega, fun e he => q2 e (List.mem_of_mem_take he)⟩
    have trn2 := h4.ne2 htr
    have fresh : ∀ {M8 : Hm} {ta : Addr}, M8 ta = none → M8 fo = some (.lst (P.map papU)) → M8 na = some (.lst (nl.map U.str)) → M8 ea = some (.lst (E.map encE)) → Dr M8 p → Fr p M' M8 → ta ≠ p.1 ∧ ta ≠ p.2 ∧ ta ≠ fo ∧ ta ≠ na ∧ ta ≠ ea ∧ M' ta = none := fun {M8 ta} z a1 a2 a3 d8 f8 => ⟨d8.ne z, d8.ne2 z, (fun e => by rw [e, a1] at z; cases z), (fun e => by rw [e, a2] at z; cases z), (fun e => by rw [e, a3] at z; cases z), f8.non (d8.ne z) z⟩
    obtain ⟨r1, r2, r3, r4, r5, r6⟩ := fresh htr h1 h2 h3 h4 (Fr.refl _ _)
    have base : ∀ (M8 : Hm), Fr p (um M' tr (.lst [])) M8 → Dr M8 p → R [some (.ref p.1), some (.ref na), some (.ref fa), some (.ref ea), some (.ref fo), some (.int (i : Nat)), some (.ref tr), u7] M8 := fun M8 f8 d8 =>
      key [] tr M8 (by decide) (fun e h => nomatch h) (f8.at_ r1 um_same) r1 r2 r3 r4 r5 r6 (f8.at_ fon (um_old h1 htr)) (f8.at_ nn (um_old h2 htr)) (f8.at_ en (um_old h3 htr)) d8 ((sub_new (Sub.refl _) htr).fr.trans f8)
    have h1' := um_old (o := .lst []) h1 htr
    by_cases hP0 : P = []
    · have hP0' : P.map papU = [] := by rw [hP0]; rfl
      (repeat decreasing_trivial_pre_omega)
      exact base _ (Fr.refl _ _) d5
    · have hP0' : ¬ P.map papU = [] := fun z => hP0 (List.map_eq_nil_iff.mp z)
      (repeat decreasing_trivial_pre_omega)
      refine hd.lt _ p 3 _ d5 (by decide) (by decide) fun c M8 hc d8 f8 => ?_
      by_cases hc1 : c = 1
      · subst hc1
        (repeat decreasing_trivial_pre_omega)
        exact base _ f8 d8
      · have hc1' : ¬ (c : Int) = 1 := by omega
        (repeat decreasing_trivial_pre_omega)
        have fo8 := f8.at_ fon h1'
        refine hp M8 p _ _ _ d8 (.inr ⟨fo, rfl, fon, fo8⟩) hP0' (by rw [List.length_map]; omega) fun u M9 hu d9 f9 => ?_
        obtain ⟨x, hx, rfl⟩ := List.mem_map.mp hu
        have hxo := hPo x hx
        simp only [papU, trU]
        (repeat decreasing_trivial_pre_omega)
        intro t1 ht1
        have t1n := d9.ne ht1
        have d10 := d9.upd (o := .lst (x.2.map encE)) ht1
        have g10 := um_same (M := M9) (a := t1) (o := .lst (x.2.map encE))
        (repeat decreasing_trivial_pre_omega)
        rw [List.length_map, show ((x.2.length : Nat) : Int) + 1 = ((x.2.length + 1 : Nat) : Int) by omega]
        refine hd.lt _ p (x.2.length + 1) _ d10 (by omega) (by have := hxo.2.1; omega) fun c2 M11 hc2 d11 f11 => ?_
        have g11 := f11.at_ t1n g10
        (repeat decreasing_trivial_pre_omega)
        rw [cutU_take, ← List.map_take]
        intro t2 ht2
        (repeat decreasing_trivial_pre_omega)
        have F11 : Fr p M' M11 := ((((sub_new (Sub.refl _) htr).fr.trans f8).trans f9).trans (sub_new (Sub.refl _) ht1).fr).trans f11
        have a1 := F11.at_ fon h1
        have a2 := F11.at_ nn h2
        have a3 := F11.at_ en h3
        obtain ⟨s1, s2, s3, s4, s5, s6⟩ := fresh ht2 a1 a2 a3 d11 F11
        exact key (x.2.take c2) t2 _ (by rw [List.length_take]; have := hxo.2.1; omega) (fun e he => hxo.2.2 e (List.mem_of_mem_take he)) um_same s1 s2 s3 s4 s5 s6 (um_old a1 ht2) (um_old a2 ht2) (um_old a3 ht2) (d11.upd ht2) (F11.trans (sub_new (Sub.refl _) ht2).fr)
  · intro σ M' ⟨⟨u5, u6, u7, e⟩, P, hPl, hPo, h1, h2, h3, h4, h5⟩
    subst e
    (repeat decreasing_trivial_pre_omega)
    exact hq fo P M' hfoM h1 hPl hPo h4 h5
end K71

set_option maxHeartbeats 1000000
/-! k71: steps, events, tables drawn -/
namespace K71
open PySem L2 Pl
def AnyC (C : CE) (f : Nat) : Prop := ∀ (M : Hm) (p : Addr × Addr) (wa : Addr) (W : List Str) (Q : QU), Dr M p → wa ≠ p.1 → M wa = some (.lst (W.map U.str)) → W ≠ [] → W.length ≤ 100 → (∀ x ∈ W, okS x = true) → (∀ s M', s.ok → Dr M' p → Fr p M M' → Q (encS s) M') → C f [.ref p.1, .ref wa] M Q
theorem any_ok {C : CE} {fp fd : Nat} (hp : PickC C fp) (hd : DrawC C fd) {nx bk ct : SU → Hm → Prop} {rt : QU} {M : Hm} {p : Addr × Addr} {wa : Addr} {W : List Str} (d : Dr M p) (wn : wa ≠ p.1) (hw : M wa = some (.lst (W.map U.str))) (hne : W ≠ []) (hl : W.length ≤ 100) (ho : ∀ x ∈ W, okS x = true) (hq : ∀ s M', s.ok → Dr M' p → Fr p M M' → rt (encS s) M') :
    wS C (B_law_any_step fp fd) ⟨nx, rt, bk, ct⟩ (startU 4 [.ref p.1, .ref wa]) M := by
  unfold B_law_any_step
  (repeat decreasing_trivial_pre_omega)
  refine hd.lt M p 6 _ d (by decide) (by decide) fun k M1 hk d1 f1 => ?_
  (repeat decreasing_trivial_pre_omega)
  refine hp M1 p _ _ _ d1 (.inr ⟨wa, rfl, wn, f1.at_ wn hw⟩) (fun z => hne (List.map_eq_nil_iff.mp z)) (by rw [List.length_map]; omega) fun u M2 hu d2 f2 => ?_
  obtain ⟨w, hwm, rfl⟩ := List.mem_map.mp hu
  have ow := ho w hwm
  have F := f1.trans f2
  (repeat decreasing_trivial_pre_omega)
  by_cases k0 : k = 0
  · subst k0
    (repeat decreasing_trivial_pre_omega)
    exact hq (.ask w) _ ow d2 F
  · by_cases k1 : k = 1
    · subst k1
      (repeat decreasing_trivial_pre_omega)
      exact hq .done _ trivial d2 F
    · have n0 : ¬ (k : Int) = 0 := by omega
      have n1 : ¬ (k : Int) = 1 := by omega
      by_cases k4 : (k : Int) < 4
      · (repeat decreasing_trivial_pre_omega)
        exact hq (.see w) _ ow d2 F
      · (repeat decreasing_trivial_pre_omega)
        intro q hq0
        (repeat decreasing_trivial_pre_omega)
        refine hp _ p _ _ _ (d2.upd hq0) (.inr ⟨q, rfl, d2.ne hq0, um_same⟩) (by simp) (by simp) fun u M3 hu d3 f3 => ?_
        have hc : ∃ c, u = .int c := by
          simp only [List.mem_cons, List.not_mem_nil, or_false] at hu
          rcases hu with rfl | rfl | rfl | rfl | rfl | rfl | rfl | rfl <;> exact ⟨_, rfl⟩
        obtain ⟨c, rfl⟩ := hc
        (repeat decreasing_trivial_pre_omega)
        exact hq (.put w c) _ ow d3 ((F.trans (sub_new (Sub.refl _) hq0).fr).trans f3)
def LEvC (C : CE) (f : Nat) : Prop := ∀ (M : Hm) (p : Addr × Addr) (po : Addr) (P : List Pap) (Q : QU), Dr M p → po ≠ p.1 → M po = some (.lst (P.map papU)) → P ≠ [] → P.length ≤ 100 → (∀ q ∈ P, PolOk q) → (∀ r ev M', okS r = true → TrOk ev → Dr M' p → Fr p M M' → Q (.tup [.str r, trU ev]) M') → C f [.ref p.1, .ref po] M Q
theorem lev_ok {C : CE} {fd fp : Nat} (hd : DrawC C fd) (hp : PickC C fp) {nx bk ct : SU → Hm → Prop} {rt : QU} {M : Hm} {p : Addr × Addr} {po : Addr} {P : List Pap} (d : Dr M p) (pn : po ≠ p.1) (h : M po = some (.lst (P.map papU))) (hne : P ≠ []) (hl : P.length ≤ 100) (ho : ∀ q ∈ P, PolOk q) (hq : ∀ r ev M', okS r = true → TrOk ev → Dr M' p → Fr p M M' → rt (.tup [.str r, trU ev]) M') :
    wS C (B_law_events fd fp) ⟨nx, rt, bk, ct⟩ (startU 6 [.ref p.1, .ref po]) M := by
  have hlim : LIM = 100000 := rfl
  have hne2 : P.map papU ≠ [] := fun z => hne (List.map_eq_nil_iff.mp z)
  unfold B_law_events
  (repeat decreasing_trivial_pre_omega)
  refine hp M p _ _ _ d (.inr ⟨po, rfl, pn, h⟩) hne2 (by rw [List.length_map]; omega) fun u M1 hu d1 f1 => ?_
  obtain ⟨x, hx, rfl⟩ := List.mem_map.mp hu
  (repeat decreasing_trivial_pre_omega)
  refine hp M1 p _ _ _ d1 (.inr ⟨po, rfl, pn, f1.at_ pn h⟩) hne2 (by rw [List.length_map]; omega) fun u M2 hu d2 f2 => ?_
  obtain ⟨y, hy, rfl⟩ := List.mem_map.mp hu
  have ox := ho x hx
  have oy := ho y hy
  simp only [papU, trU]
  (repeat decreasing_trivial_pre_omega)
  rw [List.length_map, show ((x.2.length : Nat) : Int) + 1 = ((x.2.length + 1 : Nat) : Int) by omega]
  refine hd.lt M2 p (x.2.length + 1) _ d2 (by omega) (by have := ox.2.1; omega) fun c M3 hc d3 f3 => ?_
  (repeat decreasing_trivial_pre_omega)
  rw [cutU_take, ← List.map_take]
  refine hd.lt M3 p 6 _ d3 (by decide) (by decide) fun way M4 hway d4 f4 => ?_
  have F := ((f1.trans f2).trans f3).trans f4
  have tk : TrOk (x.2.take c) := ⟨by rw [List.length_take]; have := ox.2.1; omega, fun e he => ox.2.2 e (List.mem_of_mem_take he)⟩
  have hxl := ox.2.1
  have hyl := oy.2.1
  (repeat decreasing_trivial_pre_omega)
  by_cases w1 : way = 1
  · subst w1
    (repeat decreasing_trivial_pre_omega)
    exact hq y.1 _ _ oy.1 tk d4 F
  · have n1 : ¬ (way : Int) = 1 := by omega
    by_cases w2 : way = 2
    · subst w2
      (repeat decreasing_trivial_pre_omega)
      rw [List.length_map]
      by_cases hz : (x.2.take c).length = 0
      · have hz2 : ¬ (((x.2.take c).length : Nat) : Int) > 0 := by omega
        (repeat decreasing_trivial_pre_omega)
        exact hq x.1 _ _ ox.1 tk d4 F
      · have hz2 : (((x.2.take c).length : Nat) : Int) > 0 := by omega
        (repeat decreasing_trivial_pre_omega)
        rw [List.length_map, show (((x.2.take c).length : Nat) : Int) - 1 = (((x.2.take c).length - 1 : Nat) : Int) by omega, cutU_take, ← List.map_take, show (1 : Int) = ((1 : Nat) : Int) from rfl, cutU_take, ← List.map_take]
        refine o_addT (by rw [List.length_map, List.length_map, List.length_take, List.length_take, List.length_take]; omega) ?_
        rw [← List.map_append]
        (repeat decreasing_trivial_pre_omega)
        refine hq x.1 (List.take ((x.2.take c).length - 1) (x.2.take c) ++ y.2.take 1) _ ox.1 ⟨by rw [List.length_append, List.length_take, List.length_take, List.length_take]; omega, fun e he => ?_⟩ d4 F
        rcases List.mem_append.mp he with he | he
        · exact ox.2.2 e (List.mem_of_mem_take (List.mem_of_mem_take he))
        · exact oy.2.2 e (List.mem_of_mem_take he)
    · have n2 : ¬ (way : Int) = 2 := by omega
      by_cases w3 : way = 3
      · subst w3
        (repeat decreasing_trivial_pre_omega)
        rw [show (1 : Int) = ((1 : Nat) : Int) from rfl, cutU_take, ← List.map_take]
        refine o_addT (by rw [List.length_map, List.length_map, List.length_take]; omega) ?_
        rw [← List.map_append]
        (repeat decreasing_trivial_pre_omega)
        refine hq x.1 (x.2 ++ y.2.take 1) _ ox.1 ⟨by rw [List.length_append, List.length_take]; omega, fun e he => ?_⟩ d4 F
        rcases List.mem_append.mp he with he | he
        · exact ox.2.2 e he
        · exact oy.2.2 e (List.mem_of_mem_take he)
      · have n3 : ¬ (way : Int) = 3 := by omega
        (repeat decreasing_trivial_pre_omega)
        exact hq x.1 _ _ ox.1 tk d4 F
def LTabC (C : CE) (f : Nat) : Prop := ∀ (M : Hm) (p : Addr × Addr) (po wa : Addr) (P : List Pap) (W : List Str) (Q : QU), Dr M p → po ≠ p.1 → M po = some (.lst (P.map papU)) → P ≠ [] → P.length ≤ 100 → (∀ q ∈ P, PolOk q) → wa ≠ p.1 → M wa = some (.lst (W.map U.str)) → W ≠ [] → W.length ≤ 100 → (∀ x ∈ W, okS x = true) → (∀ (T : List Ent) M', (∀ e ∈ T, EntOk e) → Dr M' p → Fr p M M' → Q (.tup (T.map entU)) M') → C f [.ref p.1, .ref po, .ref wa] M Q
theorem ltab_ok {C : CE} {fd fa fe : Nat} (hd : DrawC C fd) (hA : AnyC C fa) (hE : LEvC C fe) {nx bk ct : SU → Hm → Prop} {rt : QU} {M : Hm} {p : Addr × Addr} {po wa : Addr} {P : List Pap} {W : List Str} (d : Dr M p) (pn : po ≠ p.1) (h : M po = some (.lst (P.map papU))) (hne : P ≠ []) (hl : P.length ≤ 100) (ho : ∀ q ∈ P, PolOk q) (wn : wa ≠ p.1) (hw : M wa = some (.lst (W.map U.str))) (hwne : W ≠ []) (hwl : W.length ≤ 100) (hwo : ∀ x ∈ W, okS x = true)
    (hq : ∀ (T : List Ent) M', (∀ e ∈ T, EntOk e) → Dr M' p → Fr p M M' → rt (.tup (T.map entU)) M') : wS C (B_law_table fd fa fe) ⟨nx, rt, bk, ct⟩ (startU 8 [.ref p.1, .ref po, .ref wa]) M := by
  have hlim : LIM = 100000 := rfl
  unfold B_law_table
  (repeat decreasing_trivial_pre_omega)
  intro fo hfo
  have fon := d.ne hfo
  have fon2 := d.ne2 hfo
  have d1 := d.upd (o := .lst []) hfo
  (repeat decreasing_trivial_pre_omega)
  refine hd.lt _ p 5 _ d1 (by decide) (by decide) fun many M2 hmany d2 f2 => ?_
  have F2 : Fr p M M2 := (sub_new (Sub.refl _) hfo).fr.trans f2
  (repeat decreasing_trivial_pre_omega)
  refine ⟨by omega, by omega, ?_⟩
  refine forL_nat (fun i σ M' => (∃ u4 u5 u6, σ = [some (.ref p.1), some (.ref po), some (.ref wa), some (.ref fo), u4, u5, u6, none]) ∧ ∃ T : List Ent, T.length ≤ i ∧ (∀ e ∈ T, EntOk e) ∧ M' fo = some (.lst (T.map entU)) ∧ Dr M' p ∧ Fr p M M') many ⟨⟨_, _, _, rfl⟩, [], Nat.le_refl _, (fun e h => nomatch h), f2.at_ fon um_same, d2, F2⟩ ?_ ?_
  · intro i σ M' k hi ⟨⟨u4, u5, u6, e1⟩, T, q1, q2, q3, q4, q5⟩ hk
    subst e1
    (repeat decreasing_trivial_pre_omega)
    refine hE M' p po P _ q4 pn (q5.at_ pn h) hne hl ho fun r ev M3 hr hev d3 f3 => ?_
    simp only [trU]
    have fo3' := f3.at_ fon q3
    (repeat decreasing_trivial_pre_omega)
    refine hA M3 p wa W _ d3 wn (f3.at_ wn (q5.at_ wn hw)) hwne hwl hwo fun s M4 hs d4 f4 => ?_
    have fo4 := f4.at_ fon (f3.at_ fon q3)
    (repeat decreasing_trivial_pre_omega)
    refine m_app fo4 (by rw [List.length_map]; omega) ?_
    (repeat decreasing_trivial_pre_omega)
    refine hk _ _ trivial ⟨⟨_, _, _, rfl⟩, T ++ [(r, ev, s)], by rw [List.length_append]; simp; omega, (fun e he => ?_), by rw [um_same, List.map_append]; rfl, d4.upd2 fon fon2, ((q5.trans f3).trans f4).upd hfo⟩
    rcases List.mem_append.mp he with he | he
    · exact q2 e he
    · rw [List.mem_singleton.mp he]; exact ⟨hr, hev, hs⟩
  · intro σ M' ⟨⟨u4, u5, u6, e1⟩, T, q1, q2, q3, q4, q5⟩
    subst e1
    have fin : ∀ (T : List Ent) (u7 : Option U) (M9 : Hm), (∀ e ∈ T, EntOk e) → M9 fo = some (.lst (T.map entU)) → Dr M9 p → Fr p M M9 → wS C (.seq (.ret (.blt .tuple (.cons (.var 3) .nil))) .skip) ⟨nx, rt, bk, ct⟩ [some (.ref p.1), some (.ref po), some (.ref wa), some (.ref fo), u4, u5, u6, u7] M9 := fun T u7 M9 a1 a2 a3 a4 => by
      (repeat decreasing_trivial_pre_omega)
      exact hq T M9 a1 a3 a4
    generalize S.seq (.ret (.blt .tuple (.cons (.var 3) .nil))) .skip = X at fin ⊢
    by_cases hT : T = []
    · have hT2 : T.map entU = [] := by rw [hT]; rfl
      (repeat decreasing_trivial_pre_omega)
      exact fin T _ M' q2 q3 q4 q5
    · have hT2 : ¬ T.map entU = [] := fun z => hT (List.map_eq_nil_iff.mp z)
      (repeat decreasing_trivial_pre_omega)
      refine hd.lt M' p 2 _ q4 (by decide) (by decide) fun c M3 hc d3 f3 => ?_
      have fo3 := f3.at_ fon q3
      by_cases hc1 : c = 1
      · subst hc1
        obtain ⟨t0, T', rfl⟩ : ∃ t0 T', T = t0 :: T' := by cases T with | nil => exact absurd rfl hT | cons a b => exact ⟨a, b, rfl⟩
        have ot := q2 t0 (by simp)
        (repeat decreasing_trivial_pre_omega)
        refine x_lst fo3 (v := entU t0) (by rw [show (0 : Int) = ((0 : Nat) : Int) from rfl, Pl.atI_nat (by simp)]; rfl) ?_
        simp only [entU, trU]
        (repeat decreasing_trivial_pre_omega)
        refine hA M3 p wa W _ d3 wn (f3.at_ wn (q5.at_ wn hw)) hwne hwl hwo fun s M4 hs d4 f4 => ?_
        have fo4 := f4.at_ fon fo3
        (repeat decreasing_trivial_pre_omega)
        refine m_app fo4 (by rw [List.length_map]; omega) ?_
        (repeat decreasing_trivial_pre_omega)
        refine fin (t0 :: T' ++ [(t0.1, t0.2.1, s)]) _ _ (fun e he => ?_) (by rw [um_same, List.map_append]; rfl) (d4.upd2 fon fon2) (((q5.trans f3).trans f4).upd hfo)
        rcases List.mem_append.mp he with he | he
        · exact q2 e he
        · rw [List.mem_singleton.mp he]; exact ⟨ot.1, ot.2.1, hs⟩
      · have hc1' : ¬ (c : Int) = 1 := by omega
        (repeat decreasing_trivial_pre_omega)
        exact fin T _ M3 q2 fo3 d3 (q5.trans f3)
end K71

set_option maxHeartbeats 1000000
/-! k71: the two sides kept alike -/
namespace K71
open PySem L2 Pl
def B_law_all_hold (law_answers_hold : Nat) (law_follow_holds : Nat) (Shelf_init : Nat) (Cache_papers : Nat) : S := (.seq (.asg 3 (.comp [("cache", 4)] (.one 4) (.iSeq (.var 0)) .nil (.make "Shelf" Shelf_init (.cons (.prop "Cache" "papers" Cache_papers (.var 4)) .nil)))) (.seq (.for_ (.one 5) (.iSeq (.var 2)) (.seq (.for_ (.one 6) (.iRange (.bin .add (.blt .len (.cons (.ix (.var 5) (.int 1)) .nil)) (.int 1))) (.seq (.for_ (.one 7) (.iRange (.int 2)) (.seq (.asg 8 (.slice (.ix (.var 5) (.int 1)) .nil (.var 6))) (.seq (.ifs (.not (.call law_answers_hold (.cons (.ix (.var 0) (.var 7)) (.cons (.ix (.var 1) (.var 7)) (.cons (.ix (.var 5) (.int 0)) (.cons (.var 8) .nil)))))) (.seq (.ret (.bl false)) .skip) .skip) (.seq (.ifs (.not (.call law_follow_holds (.cons (.ix (.var 3) (.var 7)) (.cons (.ix (.var 0) (.var 7)) (.cons (.ix (.var 1) (.var 7)) (.cons (.ix (.var 5) (.int 0)) (.cons (.var 8) .nil))))))) (.seq (.ret (.bl false)) .skip) .skip) (.seq (.asg 8 (.bin .add (.var 8) (.tup (.cons (.tup (.cons (.str "put") (.cons (.str "nobody") (.cons (.int 0) .nil)))) .nil)))) (.seq (.ifs (.not (.call law_answers_hold (.cons (.ix (.var 0) (.var 7)) (.cons (.ix (.var 1) (.var 7)) (.cons (.ix (.ix (.var 2) (.bin .mod (.blt .int (.cons (.var 6) .nil)) (.int 7))) (.int 0)) (.cons (.var 8) .nil)))))) (.seq (.ret (.bl false)) .skip) .skip) .skip)))))) .skip)) .skip)) (.seq (.ret (.bl true)) .skip)))
structure Sd where
  a : Addr
  pl : Addr
  m : Addr
  ml : Addr
  room : Nat
  P : List Pap
  tb : Option (List Ent)
def Sd.cells (s : Sd) : List Addr := [s.a, s.pl, s.m, s.ml]
structure Sd.At (s : Sd) (M : Hm) : Prop where
  ca : CaAt M s.a s.pl s.room s.P s.tb
  mo : MoAt M s.m s.ml s.room s.P s.tb
structure Sd.Ok (s : Sd) : Prop where
  nd : s.P.Nodup
  ok : ∀ p ∈ s.P, PapOk p
  tb : TbOk s.tb
  len : s.P.length ≤ s.room
  room : s.room ≤ 100
  dis : s.cells.Nodup
def Frs (S : List Addr) (M M' : Hm) : Prop := ∀ b, b ∉ S → ∀ o, M b = some o → M' b = some o
theorem Sd.At.sub {s : Sd} {M M' : Hm} (h : s.At M) (f : Sub M M') : s.At M' := ⟨⟨f _ _ h.ca.ob, f _ _ h.ca.ps⟩, ⟨f _ _ h.mo.ob, f _ _ h.mo.ps⟩⟩
theorem Sd.At.frs {s : Sd} {M M' : Hm} {S : List Addr} (h : s.At M) (f : Frs S M M') (d : ∀ b ∈ s.cells, b ∉ S) : s.At M' :=
  ⟨⟨f _ (d _ (by simp [Sd.cells])) _ h.ca.ob, f _ (d _ (by simp [Sd.cells])) _ h.ca.ps⟩, ⟨f _ (d _ (by simp [Sd.cells])) _ h.mo.ob, f _ (d _ (by simp [Sd.cells])) _ h.mo.ps⟩⟩
def Sd.put (s : Sd) (p : Pap) : Sd := { s with P := putP s.room s.P p }
theorem putP_mem {room : Nat} {P : List Pap} {p q : Pap} (h : q ∈ putP room P p) : q ∈ P ∨ q = p := by
  unfold putP at h
  have : q ∈ P ++ [p] := by
    split at h
    · exact List.mem_of_mem_drop h
    · exact h
  rcases List.mem_append.mp this with h | h
  · exact .inl h
  · exact .inr (List.mem_singleton.mp h)
theorem Sd.Ok.put {s : Sd} (h : s.Ok) {p : Pap} (hp : PapOk p) (hn : p ∉ s.P) (h1 : 1 ≤ s.room) : (s.put p).Ok := by
  have nd2 : (s.P ++ [p]).Nodup := by
    rw [List.nodup_append]
    exact ⟨h.nd, by simp, fun x hx y hy e => hn (by rw [List.mem_singleton.mp hy] at e; rw [← e]; exact hx)⟩
  refine ⟨?_, fun q hq => ?_, h.tb, ?_, h.room, h.dis⟩
  · show (putP s.room s.P p).Nodup
    unfold putP
    split
    · exact nd2.sublist (List.drop_sublist _ _)
    · exact nd2
  · rcases putP_mem hq with hq | rfl
    · exact h.ok q hq
    · exact hp
  · show (putP s.room s.P p).length ≤ s.room
    have := h.len
    unfold putP
    split
    · rw [List.length_drop, List.length_append]; simp; omega
    · rename_i hr; omega
theorem Sd.At.put {s : Sd} {M : Hm} (h : s.At M) (o : s.Ok) (p : Pap) : (s.put p).At (um (um M s.pl (.lst ((putP s.room s.P p).map papU))) s.ml (.lst ((putP s.room s.P p).map papU))) := by
  have nd := o.dis
  simp only [Sd.cells, List.nodup_cons, List.mem_cons, List.not_mem_nil, or_false, not_or] at nd
  obtain ⟨⟨n1, n2, n3⟩, ⟨n4, n5⟩, n6, _⟩ := nd
  exact ⟨⟨um_oth n3 (um_oth n1 h.ca.ob), um_oth n5 um_same⟩, ⟨um_oth n6 (um_oth (Ne.symm n4) h.mo.ob), um_same⟩⟩
theorem frs_put {s : Sd} {M : Hm} {o o' : MO} : Frs s.cells M (um (um M s.pl o) s.ml o') := fun b hb x e => by
  have h1 : b ≠ s.ml := fun z => hb (by rw [z]; simp [Sd.cells])
  have h2 : b ≠ s.pl := fun z => hb (by rw [z]; simp [Sd.cells])
  rw [um_ne h1, um_ne h2]
  exact e
def CPutC (C : CE) (f : Nat) : Prop := ∀ (M : Hm) (a pl : Addr) (room : Nat) (P : List Pap) (tb : Option (List Ent)) (p : Pap) (Q : QU), CaAt M a pl room P tb → P.length ≤ 1000 → (∀ q ∈ P, PapOk q) → PapOk p → (p ∈ P → Q (.bl false) M) → (p ∉ P → Q (.bl true) (um M pl (.lst ((putP room P p).map papU)))) → C f [.ref a, papU p] M Q
def LPutC (C : CE) (f : Nat) : Prop := ∀ (M : Hm) (m ml : Addr) (room : Nat) (P : List Pap) (tb : Option (List Ent)) (p : Pap) (Q : QU), MoAt M m ml room P tb → m ≠ ml → P.length ≤ 1000 → (∀ q ∈ P, PapOk q) → PapOk p → (p ∈ P → Q (.bl false) M) → (p ∉ P → Q (.bl true) (um M ml (.lst ((putP room P p).map papU)))) → C f [.ref m, papU p] M Q
def Ph (s : Sd) (p : Pap) (M : Hm) (b : Bool) (M1 : Hm) : Prop := (p ∈ s.P ∧ b = false ∧ M1 = M) ∨ (p ∉ s.P ∧ b = true ∧ M1 = um M s.pl (.lst ((putP s.room s.P p).map papU)))
structure Like (s s' : Sd) : Prop where
  a : s'.a = s.a
  pl : s'.pl = s.pl
  m : s'.m = s.m
  ml : s'.ml = s.ml
  room : s'.room = s.room
theorem Like.refl (s : Sd) : Like s s := ⟨rfl, rfl, rfl, rfl, rfl⟩
theorem Like.trans {s t u : Sd} (h : Like s t) (g : Like t u) : Like s u := ⟨g.a.trans h.a, g.pl.trans h.pl, g.m.trans h.m, g.ml.trans h.ml, g.room.trans h.room⟩
theorem Like.cells {s t : Sd} (h : Like s t) : t.cells = s.cells := by unfold Sd.cells; rw [h.a, h.pl, h.m, h.ml]
theorem put1 {C : CE} {fc : Nat} (hC : CPutC C fc) {M : Hm} {s : Sd} {p : Pap} {Q : QU} (h : s.At M) (o : s.Ok) (hp : PapOk p) (hq : ∀ b M1, Ph s p M b M1 → Frs s.cells M M1 → Q (.bl b) M1) : C fc [.ref s.a, papU p] M Q := by
  have hl : s.P.length ≤ 1000 := by have := o.len; have := o.room; omega
  refine hC M _ _ _ _ _ p _ h.ca hl o.ok hp (fun hin => ?_) fun hin => ?_
  · exact hq false M (.inl ⟨hin, rfl, rfl⟩) fun b _ x e => e
  · refine hq true _ (.inr ⟨hin, rfl, rfl⟩) fun b hb x e => ?_
    rw [um_ne (fun z => hb (by rw [z]; simp [Sd.cells]))]
    exact e
theorem put2 {C : CE} {fl : Nat} (hL : LPutC C fl) {M M1 : Hm} {s : Sd} {p : Pap} {b : Bool} {Q : QU} (ph : Ph s p M b M1) (h : s.At M) (o : s.Ok) (h1 : 1 ≤ s.room) (hp : PapOk p) (hq : ∀ M2 (s' : Sd), s'.At M2 → s'.Ok → Like s s' → Frs s.cells M M2 → Q (.bl b) M2) : C fl [.ref s.m, papU p] M1 Q := by
  have nd := o.dis
  simp only [Sd.cells, List.nodup_cons, List.mem_cons, List.not_mem_nil, or_false, not_or] at nd
  obtain ⟨⟨n1, n2, n3⟩, ⟨n4, n5⟩, n6, _⟩ := nd
  have hl : s.P.length ≤ 1000 := by have := o.len; have := o.room; omega
  rcases ph with ⟨hin, rfl, rfl⟩ | ⟨hin, rfl, rfl⟩
  · refine hL M1 _ _ _ _ _ p _ h.mo n6 hl o.ok hp (fun _ => ?_) fun z => absurd hin z
    exact hq M1 s h o (Like.refl s) fun b _ x e => e
  · refine hL _ s.m s.ml s.room s.P s.tb p _ ⟨um_oth (Ne.symm n4) h.mo.ob, um_oth (Ne.symm n5) h.mo.ps⟩ n6 hl o.ok hp (fun z => absurd z hin) fun _ => ?_
    exact hq _ (s.put p) (h.put o p) (o.put hp hin h1) ⟨rfl, rfl, rfl, rfl, rfl⟩ frs_put
def FilC (C : CE) (f : Nat) : Prop := ∀ (M : Hm) (ff : Addr) (fl : List Str) (s : Sd) (nm : Str) (Q : QU), M ff = some (.lst (fl.map U.str)) → fl.length = 20 → (∀ x ∈ fl, okS x = true) → ff ∉ s.cells → okS nm = true → s.At M → s.Ok → 1 ≤ s.room → (∀ M' (s' : Sd), s'.At M' → s'.Ok → Like s s' → Frs s.cells M M' → Q (.bl true) M') → C f [.ref ff, .ref s.m, .ref s.a, .str nm] M Q
theorem filled_ok {C : CE} {fh fs fl_ fc : Nat} (hH : SHoldC C fh) (hS : ∀ n, n ≤ 6 → SameE C fs n) (hL : LPutC C fl_) (hC : CPutC C fc) {nx bk ct : SU → Hm → Prop} {rt : QU} {M : Hm} {ff : Addr} {fl : List Str} {s : Sd} {nm : Str} (hf : M ff = some (.lst (fl.map U.str))) (hfl : fl.length = 20) (hfo : ∀ x ∈ fl, okS x = true) (hfd : ff ∉ s.cells) (hnm : okS nm = true) (h : s.At M) (o : s.Ok) (hr : 1 ≤ s.room)
    (hq : ∀ M' (s' : Sd), s'.At M' → s'.Ok → Like s s' → Frs s.cells M M' → rt (.bl true) M') :
    wS C (B_law_filled fh fs fl_ fc) ⟨nx, rt, bk, ct⟩ (startU 6 [.ref ff, .ref s.m, .ref s.a, .str nm]) M := by
  unfold B_law_filled
  (repeat decreasing_trivial_pre_omega)
  refine ⟨by decide, by decide, ?_⟩
  refine forL_nat (n := 62) (fun i σ M' => (∃ u4 u5, σ = [some (.ref ff), some (.ref s.m), some (.ref s.a), some (.str nm), u4, u5]) ∧ ∃ s' : Sd, s'.At M' ∧ s'.Ok ∧ Like s s' ∧ Frs s.cells M M') ⟨⟨_, _, rfl⟩, s, h, o, Like.refl s, fun b _ x e => e⟩ ?_ ?_
  · intro i σ M' k hi ⟨⟨u4, u5, e⟩, s', g1, g2, lk, g9⟩ hk
    subst e
    have hix : i % 20 < fl.length := by omega
    have hf' := g9 ff hfd _ hf
    have hpp : PapOk (nm, [.see fl[i % 20] ((i : Int) / 20 - 1)]) := ⟨hnm, by simp, fun e he => by rw [List.mem_singleton.mp he]; exact hfo _ (List.getElem_mem hix)⟩
    rw [← lk.a, ← lk.m]
    have hob := g1.ca.ob
    (repeat decreasing_trivial_pre_omega)
    refine x_lst (v := .str fl[i % 20]) hf' (by
      have := Pl.atI_nat (l := fl.map U.str) (i := i % 20) (by rw [List.length_map]; exact hix)
      rw [List.getElem_map] at this
      rw [← this]
      congr 1) ?_
    (repeat decreasing_trivial_pre_omega)
    refine put1 (p := (nm, [.see fl[i % 20] ((i : Int) / 20 - 1)])) hC g1 g2 hpp fun b M1 ph f1 => ?_
    (repeat decreasing_trivial_pre_omega)
    refine put2 (p := (nm, [.see fl[i % 20] ((i : Int) / 20 - 1)])) hL ph g1 g2 (by rw [lk.room]; exact hr) hpp fun M2 s2 k1 k2 k3 k4 => ?_
    (repeat decreasing_trivial_pre_omega)
    refine hS 0 (by decide) _ _ _ rfl ?_
    (repeat decreasing_trivial_pre_omega)
    exact hk _ _ trivial ⟨⟨_, _, by rw [lk.a, lk.m]; rfl⟩, s2, k1, k2, lk.trans k3, fun b hb x e => k4 b (by rw [lk.cells]; exact hb) x (g9 b hb x e)⟩
  · intro σ M' ⟨⟨u4, u5, e⟩, s', g1, g2, lk, g9⟩
    subst e
    (repeat decreasing_trivial_pre_omega)
    rw [← lk.a, ← lk.m]
    exact hH M' _ _ _ _ _ _ _ _ g1.ca g1.mo (by have := g2.len; have := g2.room; omega) g2.ok (hq M' s' g1 g2 lk g9)
end K71

set_option maxHeartbeats 1000000
/-! k71: all of it -/
namespace K71
open PySem L2 Pl
structure Wd (M : Hm) (p : Addr × Addr) (po wl ms cs : Addr) (pool : List Pap) (W : List Str) (s t : Sd) : Prop where
  dr : Dr M p
  hpo : M po = some (.lst (pool.map papU))
  hwl : M wl = some (.lst (W.map U.str))
  hms : M ms = some (.lst [.ref s.m, .ref t.m])
  hcs : M cs = some (.lst [.ref s.a, .ref t.a])
  s1 : s.At M
  t1 : t.At M
  so : s.Ok
  to_ : t.Ok
  sr : 1 ≤ s.room
  tr : 1 ≤ t.room
  nd : ([p.1, p.2, po, wl, ms, cs] ++ s.cells ++ t.cells).Nodup
theorem Wd.not0 {M : Hm} {p : Addr × Addr} {po wl ms cs : Addr} {pool : List Pap} {W : List Str} {s t : Sd} (w : Wd M p po wl ms cs pool W s t) : ∀ x ∈ [p.1, p.2, po, wl, ms, cs] ++ t.cells, x ∉ s.cells := by
  have nd := w.nd
  rw [List.append_assoc] at nd
  obtain ⟨_, h2, h3⟩ := List.nodup_append.mp nd
  obtain ⟨_, _, h4⟩ := List.nodup_append.mp h2
  intro x hx hs
  rcases List.mem_append.mp hx with hx | hx
  · exact h3 x hx x (List.mem_append_left _ hs) rfl
  · exact h4 x hs x hx rfl
theorem Wd.not1 {M : Hm} {p : Addr × Addr} {po wl ms cs : Addr} {pool : List Pap} {W : List Str} {s t : Sd} (w : Wd M p po wl ms cs pool W s t) : ∀ x ∈ [p.1, p.2, po, wl, ms, cs] ++ s.cells, x ∉ t.cells := by
  have nd := w.nd
  obtain ⟨_, _, h3⟩ := List.nodup_append.mp nd
  exact fun x hx ht => h3 x hx x ht rfl
theorem Dr.frs {M M' : Hm} {p : Addr × Addr} {S : List Addr} (h : Dr M p) (f : Frs S M M') (h1 : p.1 ∉ S) (h2 : p.2 ∉ S) : Dr M' p := by
  obtain ⟨cells, a, b, c, hn, hp, hc, hi⟩ := h
  exact ⟨cells, a, b, c, hn, f _ h1 _ hp, f _ h2 _ hc, hi⟩
theorem Wd.up0 {M M' : Hm} {p : Addr × Addr} {po wl ms cs : Addr} {pool : List Pap} {W : List Str} {s s' t : Sd} (w : Wd M p po wl ms cs pool W s t) (f : Frs s.cells M M') (h : s'.At M') (o : s'.Ok) (l : Like s s') : Wd M' p po wl ms cs pool W s' t := by
  have n := w.not0
  refine ⟨Dr.frs w.dr f (n _ (by simp)) (n _ (by simp)), f _ (n _ (by simp)) _ w.hpo, f _ (n _ (by simp)) _ w.hwl, by rw [l.m]; exact f _ (n _ (by simp)) _ w.hms, by rw [l.a]; exact f _ (n _ (by simp)) _ w.hcs, h, w.t1.frs f fun b hb => n b (List.mem_append_right _ hb), o, w.to_, by rw [l.room]; exact w.sr, w.tr, by rw [l.cells]; exact w.nd⟩
theorem Wd.up1 {M M' : Hm} {p : Addr × Addr} {po wl ms cs : Addr} {pool : List Pap} {W : List Str} {s t t' : Sd} (w : Wd M p po wl ms cs pool W s t) (f : Frs t.cells M M') (h : t'.At M') (o : t'.Ok) (l : Like t t') : Wd M' p po wl ms cs pool W s t' := by
  have n := w.not1
  refine ⟨Dr.frs w.dr f (n _ (by simp)) (n _ (by simp)), f _ (n _ (by simp)) _ w.hpo, f _ (n _ (by simp)) _ w.hwl, by rw [l.m]; exact f _ (n _ (by simp)) _ w.hms, by rw [l.a]; exact f _ (n _ (by simp)) _ w.hcs, w.s1.frs f fun b hb => n b (List.mem_append_right _ hb), h, w.so, o, w.sr, by rw [l.room]; exact w.tr, by rw [l.cells]; exact w.nd⟩
theorem Wd.fr {M M' : Hm} {p : Addr × Addr} {po wl ms cs : Addr} {pool : List Pap} {W : List Str} {s t : Sd} (w : Wd M p po wl ms cs pool W s t) (d : Dr M' p) (f : Fr p M M') : Wd M' p po wl ms cs pool W s t := by
  have nd := w.nd
  have n : ∀ x ∈ [po, wl, ms, cs] ++ s.cells ++ t.cells, x ≠ p.1 := by
    have := (List.nodup_cons.mp (show (p.1 :: ([p.2, po, wl, ms, cs] ++ s.cells ++ t.cells)).Nodup from nd)).1
    exact fun x hx e => this (by rw [← e]; exact List.mem_cons_of_mem _ hx)
  have ns : ∀ x ∈ s.cells, x ≠ p.1 := fun x hx => n x (List.mem_append_left _ (List.mem_append_right _ hx))
  have nt : ∀ x ∈ t.cells, x ≠ p.1 := fun x hx => n x (List.mem_append_right _ hx)
  have g : ∀ {u : Sd}, (∀ x ∈ u.cells, x ≠ p.1) → u.At M → u.At M' := fun {u} hu h => ⟨⟨f.at_ (hu _ (by simp [Sd.cells])) h.ca.ob, f.at_ (hu _ (by simp [Sd.cells])) h.ca.ps⟩, ⟨f.at_ (hu _ (by simp [Sd.cells])) h.mo.ob, f.at_ (hu _ (by simp [Sd.cells])) h.mo.ps⟩⟩
  exact ⟨d, f.at_ (n _ (by simp)) w.hpo, f.at_ (n _ (by simp)) w.hwl, f.at_ (n _ (by simp)) w.hms, f.at_ (n _ (by simp)) w.hcs, g ns w.s1, g nt w.t1, w.so, w.to_, w.sr, w.tr, nd⟩
theorem Wd.sub {M M' : Hm} {p : Addr × Addr} {po wl ms cs : Addr} {pool : List Pap} {W : List Str} {s t : Sd} (w : Wd M p po wl ms cs pool W s t) (f : Sub M M') : Wd M' p po wl ms cs pool W s t := w.fr (w.dr.sub f) f.fr
/-- one side -/
theorem Wd.side {M : Hm} {p : Addr × Addr} {po wl ms cs : Addr} {pool : List Pap} {W : List Str} {s t : Sd} (w : Wd M p po wl ms cs pool W s t) {i : Nat} (hi : i < 2) : ∃ u : Sd, (u = s ∧ i = 0 ∨ u = t ∧ i = 1) ∧ u.At M ∧ u.Ok ∧ 1 ≤ u.room ∧ atI [U.ref s.m, U.ref t.m] (i : Nat) = some (.ref u.m) ∧ atI [U.ref s.a, U.ref t.a] (i : Nat) = some (.ref u.a) := by
  rcases i with _ | _ | i
  · exact ⟨s, .inl ⟨rfl, rfl⟩, w.s1, w.so, w.sr, rfl, rfl⟩
  · exact ⟨t, .inr ⟨rfl, rfl⟩, w.t1, w.to_, w.tr, rfl, rfl⟩
  · omega
theorem all_ok {C : CE} {fa ff fi fp : Nat} (hA : AHoldC C fa) (hF : FHoldC C ff) (hI : SInitC C fi) (hP : CPapC C fp) {nx bk ct : SU → Hm → Prop} {rt : QU} {M : Hm} {p : Addr × Addr} {po wl ms cs : Addr} {pool : List Pap} {W : List Str} {s t : Sd} (w : Wd M p po wl ms cs pool W s t) (hl : pool.length = 7) (ho : ∀ q ∈ pool, PolOk q) (hq : ∀ M', rt (.bl true) M') :
    wS C (B_law_all_hold fa ff fi fp) ⟨nx, rt, bk, ct⟩ (startU 9 [.ref cs, .ref ms, .ref po]) M := by
  have hlim : LIM = 100000 := rfl
  have okput : okS "nobody" = true := by decide +kernel
  have wcs := w.hcs
  unfold B_law_all_hold
  (repeat decreasing_trivial_pre_omega)
  refine compL_by (enc := fun u : Sd => U.ref u.a) (fun don rest acc M' => ∃ ps : List (Sd × Addr), ps.map (·.1) = don ∧ acc = ps.map (fun q => U.ref q.2) ∧ (∀ q ∈ ps, ShAt M' q.2 q.1.P) ∧ Sub M M') [s, t] ⟨[], rfl, rfl, (fun q h => nomatch h), Sub.refl _⟩ ?_ ?_
  · intro don u rest acc M' k e ⟨ps, a1, a2, a3, a4⟩ hk
    subst a2
    have hu : u = s ∨ u = t := by have : u ∈ [s, t] := by rw [← e]; simp
                                  simpa using this
    have hU : u.At M' ∧ u.Ok := by rcases hu with rfl | rfl; exact ⟨w.s1.sub a4, w.so⟩; exact ⟨w.t1.sub a4, w.to_⟩
    have hdl : don.length + rest.length + 1 = 2 := by have := congrArg List.length e; simp at this; omega
    have hpl := congrArg List.length a1
    rw [List.length_map] at hpl
    have hob := hU.1.ca.ob
    (repeat decreasing_trivial_pre_omega)
    refine hP _ _ _ _ _ _ _ hU.1.ca ?_
    (repeat decreasing_trivial_pre_omega)
    intro sh hsh
    refine hI _ sh u.P _ um_same hU.2.nd (by have := hU.2.len; have := hU.2.room; omega) fun M2 f2 h2 => ⟨rfl, ?_⟩
    have s2 : Sub M' M2 := fun b o e => f2 b (ne_of_old e hsh) o (um_old e hsh)
    refine hk _ _ (s2 _ _ (a4 _ _ wcs)) (fun _ => by rw [List.length_map]; omega) ⟨ps ++ [(u, sh)], by simp [a1], by simp, fun q hq => ?_, a4.trans s2⟩
    rcases List.mem_append.mp hq with hq | hq
    · obtain ⟨hd, h⟩ := a3 q hq; exact ⟨hd, s2 _ _ h⟩
    · rw [List.mem_singleton.mp hq]; exact h2
  · intro acc M' ⟨ps, a1, a2, a3, a4⟩
    subst a2
    obtain ⟨q0, q1, rfl⟩ : ∃ a b, ps = [a, b] := by
      rcases ps with _ | ⟨a, _ | ⟨b, _ | ⟨c, l⟩⟩⟩
      · cases a1
      · cases a1
      · exact ⟨a, b, rfl⟩
      · simp at a1
    simp only [List.map_cons, List.map_nil, List.cons.injEq, and_true] at a1
    obtain ⟨z0, z1⟩ := a1
    have h0 := a3 q0 (by simp)
    have h1 := a3 q1 (by simp)
    rw [z0] at h0
    rw [z1] at h1
    simp only [List.map_cons, List.map_nil]
    intro sl hsl
    have w0 := (w.sub a4).sub (sub_new (o := .lst [U.ref q0.2, U.ref q1.2]) (Sub.refl _) hsl)
    have g0 : ShAt (um M' sl (.lst [U.ref q0.2, U.ref q1.2])) q0.2 s.P := by obtain ⟨hd, h⟩ := h0; exact ⟨hd, um_old h hsl⟩
    have g1 : ShAt (um M' sl (.lst [U.ref q0.2, U.ref q1.2])) q1.2 t.P := by obtain ⟨hd, h⟩ := h1; exact ⟨hd, um_old h hsl⟩
    have gs : um M' sl (.lst [U.ref q0.2, U.ref q1.2]) sl = some (.lst [U.ref q0.2, U.ref q1.2]) := um_same
    generalize um M' sl (.lst [U.ref q0.2, U.ref q1.2]) = M3 at w0 g0 g1 gs ⊢
    have wpo := w0.hpo
    (repeat decreasing_trivial_pre_omega)
    refine forL_by (enc := papU) (fun don rest σ M' => (∃ u4 u5 u6 u7 u8, σ = [some (.ref cs), some (.ref ms), some (.ref po), some (.ref sl), u4, u5, u6, u7, u8]) ∧ Sub M3 M') pool ⟨⟨_, _, _, _, _, rfl⟩, Sub.refl _⟩ ?_ ?_
    · intro don x rest σ M4 k e ⟨⟨u4, u5, u6, u7, u8, e1⟩, e2⟩ hk
      subst e1
      have hx := ho x (by rw [← e]; simp)
      have hxl := hx.2.1
      simp only [papU, trU]
      (repeat decreasing_trivial_pre_omega)
      rw [List.length_map]
      refine ⟨by omega, by omega, ?_⟩
      rw [show ((x.2.length : Nat) : Int) + 1 = ((x.2.length + 1 : Nat) : Int) by omega]
      refine forL_nat (fun i σ M' => (∃ u6 u7 u8, σ = [some (.ref cs), some (.ref ms), some (.ref po), some (.ref sl), u4, some (.tup [.str x.1, .tup (x.2.map encE)]), u6, u7, u8]) ∧ Sub M3 M') (x.2.length + 1) ⟨⟨_, _, _, rfl⟩, e2⟩ ?_ ?_
      · intro many σ M5 k2 hmany ⟨⟨u6, u7, u8, e1⟩, e3⟩ hk2
        subst e1
        (repeat decreasing_trivial_pre_omega)
        refine ⟨by decide, by decide, ?_⟩
        refine forL_nat (n := 2) (fun i σ M' => (∃ u7 u8, σ = [some (.ref cs), some (.ref ms), some (.ref po), some (.ref sl), u4, some (.tup [.str x.1, .tup (x.2.map encE)]), some (.int (many : Nat)), u7, u8]) ∧ Sub M3 M') ⟨⟨_, _, rfl⟩, e3⟩ ?_ ?_
        · intro at_ σ M6 k3 hat ⟨⟨u7, u8, e1⟩, e4⟩ hk3
          subst e1
          have w6 := w0.sub e4
          obtain ⟨u, hu, uat, uok, ur, i1, i2⟩ := w6.side hat
          obtain ⟨shu, i3, hsu⟩ : ∃ shu, atI [U.ref q0.2, U.ref q1.2] (at_ : Nat) = some (.ref shu) ∧ ShAt M6 shu u.P := by
            rcases hu with ⟨rfl, rfl⟩ | ⟨rfl, rfl⟩
            · obtain ⟨hd, h⟩ := g0; exact ⟨q0.2, rfl, hd, e4 _ _ h⟩
            · obtain ⟨hd, h⟩ := g1; exact ⟨q1.2, rfl, hd, e4 _ _ h⟩
          have wms := w6.hms
          have wcs6 := w6.hcs
          have wpo6 := w6.hpo
          have gs6 := e4 _ _ gs
          have tk : TrOk (x.2.take many) := ⟨by rw [List.length_take]; omega, fun e he => hx.2.2 e (List.mem_of_mem_take he)⟩
          have hul : u.P.length ≤ 1000 := by have := uok.len; have := uok.room; omega
          (repeat decreasing_trivial_pre_omega)
          rw [cutU_take, ← List.map_take]
          refine x_lst wcs6 i2 ?_
          (repeat decreasing_trivial_pre_omega)
          refine x_lst wms i1 ?_
          (repeat decreasing_trivial_pre_omega)
          refine hA _ _ _ _ _ _ _ _ _ (x.2.take many) _ uat.ca uat.mo uok.ok uok.tb tk ?_
          (repeat decreasing_trivial_pre_omega)
          refine x_lst gs6 i3 ?_
          (repeat decreasing_trivial_pre_omega)
          refine x_lst wcs6 i2 ?_
          (repeat decreasing_trivial_pre_omega)
          refine x_lst wms i1 ?_
          (repeat decreasing_trivial_pre_omega)
          refine hF _ _ _ _ _ _ _ _ _ _ (x.2.take many) _ uat.ca uat.mo hsu hul uok.ok uok.tb tk fun M7 s7 => ?_
          have w7 := w6.sub s7
          have wms7 := w7.hms
          have wcs7 := w7.hcs
          have wpo7 := w7.hpo
          have uat7 := uat.sub s7
          (repeat decreasing_trivial_pre_omega)
          refine o_addT (by rw [List.length_map, List.length_take]; simp; omega) ?_
          rw [show (x.2.take many).map encE ++ [U.tup [.str "put", .str "nobody", .int 0]] = (x.2.take many ++ [Ev.put "nobody" 0]).map encE by rw [List.map_append]; rfl]
          have tk2 : TrOk (x.2.take many ++ [Ev.put "nobody" 0]) := ⟨by rw [List.length_append, List.length_take]; simp; omega, fun e he => by
            rcases List.mem_append.mp he with he | he
            · exact tk.2 e he
            · rw [List.mem_singleton.mp he]; exact okput⟩
          (repeat decreasing_trivial_pre_omega)
          refine x_lst wcs7 i2 ?_
          (repeat decreasing_trivial_pre_omega)
          refine x_lst wms7 i1 ?_
          (repeat decreasing_trivial_pre_omega)
          have hm7 : many % 7 < pool.length := by omega
          refine x_lst (v := papU pool[many % 7]) wpo7 (by
            have := Pl.atI_nat (l := pool.map papU) (i := many % 7) (by rw [List.length_map]; exact hm7)
            rw [List.getElem_map] at this
            rw [← this]
            congr 1) ?_
          simp only [papU]
          (repeat decreasing_trivial_pre_omega)
          refine hA _ _ _ _ _ _ _ _ _ (x.2.take many ++ [Ev.put "nobody" 0]) _ uat7.ca uat7.mo uok.ok uok.tb tk2 ?_
          (repeat decreasing_trivial_pre_omega)
          exact hk3 _ _ trivial ⟨⟨_, _, rfl⟩, e4.trans s7⟩
        · intro σ M6 ⟨⟨u7, u8, e1⟩, e4⟩
          subst e1
          (repeat decreasing_trivial_pre_omega)
          exact hk2 _ _ trivial ⟨⟨_, _, _, rfl⟩, e4⟩
      · intro σ M5 ⟨⟨u6, u7, u8, e1⟩, e3⟩
        subst e1
        (repeat decreasing_trivial_pre_omega)
        exact hk _ _ (e3 _ _ wpo) ⟨⟨_, _, _, _, _, rfl⟩, e3⟩
    · intro σ M4 ⟨⟨u4, u5, u6, u7, u8, e1⟩, e2⟩
      subst e1
      (repeat decreasing_trivial_pre_omega)
      exact hq _
def AllC (C : CE) (f : Nat) : Prop := ∀ (M : Hm) (p : Addr × Addr) (po wl ms cs : Addr) (pool : List Pap) (W : List Str) (s t : Sd) (Q : QU), Wd M p po wl ms cs pool W s t → pool.length = 7 → (∀ q ∈ pool, PolOk q) → (∀ M', Q (.bl true) M') → C f [.ref cs, .ref ms, .ref po] M Q
end K71

set_option maxHeartbeats 1000000
/-! k71: joined -/
namespace K71
open PySem L2 Pl
def depth : Nat := 40
def ShufL (C : CE) (f : Nat) : Prop := ∀ (M : Hm) (p : Addr × Addr) (r : Addr) (us : List U) (Q : QU), Dr M p → M r = some (.lst us) → us.length < 100000 →
  (∀ q ws M', ws.Perm us → Dr M' p → Fr p M M' → q ≠ p.1 → q ≠ p.2 → M q = none → M' q = some (.lst ws) → Q (.ref q) M') → C f [.ref p.1, .ref r] M Q
def NamesL (C : CE) (f n : Nat) : Prop := ∀ (M : Hm) (Q : QU), (∀ (r : Addr) (l : List Str) M', Sub M M' → M r = none → M' r = some (.lst (l.map U.str)) → l.length = n → (∀ x ∈ l, okS x = true) → Q (.ref r) M') → C f [] M Q
theorem c_draw (k : Nat) : DrawC (Cs T (k + 1)) 23 := fun M p many Q d h1 h2 hq => cs23 rfl (draw_ok d h1 h2 fun r M' r0 r1 d' fr => ⟨M', Pl.Sub.refl _, hq r M' r0 r1 d' (Fr.of_eq fr)⟩)
theorem c_pick (k : Nat) : PickC (Cs T (k + 2)) 24 := fun M p row us Q d hr h1 h2 hq => cs24 rfl (pick_ok (c_draw k) d hr h1 h2 fun x M' hx d' fr => ⟨M', Pl.Sub.refl _, hq x M' hx d' fr⟩)
theorem c_rare (k : Nat) : RareC (Cs T (k + 2)) 25 := fun M p many Q d h1 h2 hq => cs25 rfl (rare_ok (c_draw k) d h1 h2 fun b M' d' fr => ⟨M', Pl.Sub.refl _, hq b M' d' fr⟩)
theorem c_shuf (k : Nat) : ShufL (Cs T (k + 2)) 26 := fun M p r us Q d hr hl hq => cs26 rfl (shuffled_ok (c_draw k) d hr hl fun q ws M' h1 h2 h3 h4 h5 h6 h7 => ⟨M', Pl.Sub.refl _, hq q ws M' h1 h2 h3 h4 h5 h6 h7⟩)
theorem c_files (k : Nat) : NamesL (Cs T (k + 1)) 27 20 := fun M Q hq => cs27 rfl (by
  unfold b27
  (repeat decreasing_trivial_pre_omega)
  refine ⟨⟨_, rfl⟩, ?_⟩
  (repeat decreasing_trivial_pre_omega)
  exact ⟨by decide +kernel, by decide +kernel, fun p hp => ⟨_, Pl.Sub.refl _, hq p _ _ (sub_new (Pl.Sub.refl _) hp) hp um_same (by decide +kernel) (by decide +kernel)⟩⟩)
theorem c_rules (k : Nat) : NamesL (Cs T (k + 1)) 28 16 := fun M Q hq => cs28 rfl (by
  unfold b28
  (repeat decreasing_trivial_pre_omega)
  refine ⟨⟨_, rfl⟩, ?_⟩
  (repeat decreasing_trivial_pre_omega)
  exact ⟨by decide +kernel, by decide +kernel, fun p hp => ⟨_, Pl.Sub.refl _, hq p _ _ (sub_new (Pl.Sub.refl _) hp) hp um_same (by decide +kernel) (by decide +kernel)⟩⟩)
theorem c_step (k : Nat) : StepC (Cs T (k + 1)) 0 := fun M e Q hq => cs0 rfl (step_ok ⟨M, Pl.Sub.refl _, hq⟩)
theorem c_after (k : Nat) : AfterC (Cs T (k + 2)) 1 := fun M t ev Q h1 h2 hq => cs1 rfl (after_ok (c_step k) h1 h2 ⟨M, Pl.Sub.refl _, hq⟩)
theorem c_first (k : Nat) : FirstC (Cs T (k + 3)) 2 := fun M pl P r ev Q h1 h2 h3 hq => cs2 rfl (first_ok (c_after k) h1 h2 h3 ⟨M, Pl.Sub.refl _, hq⟩)
theorem c_table (k : Nat) : TableC (Cs T (k + 1)) 3 := fun M T r ev Q h1 h2 hq => cs3 rfl (table_ok h1 h2 ⟨M, Pl.Sub.refl _, hq⟩)
theorem c_cinit (k : Nat) : CInitC (Cs T (k + 1)) 4 := fun M a room Q h hq => cs4 rfl (cinit_ok h fun σ M' pl h1 h2 h3 => ⟨M', Pl.Sub.refl _, hq M' pl h1 h2 h3⟩)
theorem c_cpap (k : Nat) : CPapC (Cs T (k + 1)) 5 := fun M a pl room P tb Q h hq => cs5 rfl (cpapers_ok h ⟨M, Pl.Sub.refl _, hq⟩)
theorem c_chon (k : Nat) : CHonC (Cs T (k + 1)) 6 := fun M a pl room P tb Q h hq => cs6 rfl (chonest_ok h ⟨M, Pl.Sub.refl _, hq⟩)
theorem c_cput (k : Nat) : CPutC (Cs T (k + 1)) 7 := fun M a pl room P tb p Q h1 h2 h3 h4 q1 q2 => cs7 rfl (cput_ok h1 h2 h3 h4 (fun h => ⟨M, Pl.Sub.refl _, q1 h⟩) fun h => ⟨_, Pl.Sub.refl _, q2 h⟩)
theorem c_cans (k : Nat) : CAnsC (Cs T (k + 4)) 8 := fun M a pl room P tb r ev Q h1 h2 h3 h4 hq => cs8 rfl (canswer_ok (c_table (k + 2)) (c_first k) h1 h2 h3 h4 ⟨M, Pl.Sub.refl _, by cases tb <;> exact hq⟩)
def CCorC (C : CE) (f : Nat) : Prop := ∀ (M : Hm) (a pl : Addr) (room : Nat) (P : List Pap) (tb : Option (List Ent)) (T : List Ent) (Q : QU), CaAt M a pl room P tb → (∀ M', Fr1 a M M' → CaAt M' a pl room P (some T) → Q .non M') → C f [.ref a, .tup (T.map entU)] M Q
theorem c_ccor (k : Nat) : CCorC (Cs T (k + 1)) 9 := fun M a pl room P tb Tt Q h hq => cs9 rfl (ccorrupt_ok h fun σ M' h1 h2 => ⟨M', Pl.Sub.refl _, hq M' h1 h2⟩)
theorem c_once (k : Nat) : OnceC (Cs T (k + 1)) 10 := fun M P Q h1 h2 hq => cs10 rfl (once_ok h1 h2 fun M' s => ⟨M', Pl.Sub.refl _, hq M' s⟩)
theorem c_beg (k : Nat) : BeginsC (Cs T (k + 1)) 11 := fun M t ev Q h1 h2 hq => cs11 rfl (begins_ok h1 h2 ⟨M, Pl.Sub.refl _, hq⟩)
theorem c_beh (k : Nat) : BehindC (Cs T (k + 1)) 12 := fun M t n Q h1 hq => cs12 rfl (behind_ok h1 ⟨M, Pl.Sub.refl _, hq⟩)
theorem c_sinit (k : Nat) : SInitC (Cs T (k + 2)) 13 := fun M a P Q h1 h2 h3 hq => cs13 rfl (sinit_ok (c_once k) h1 h2 h3 fun σ M' g1 g2 => ⟨M', Pl.Sub.refl _, hq M' g1 g2⟩)
theorem c_of (k : Nat) : OfC (Cs T (k + 1)) 16 := fun M a P r Q h1 h2 hq => cs16 rfl (of_ok h1 h2 fun M' s => ⟨M', Pl.Sub.refl _, hq M' s⟩)
theorem c_fol (k : Nat) : FollowC (Cs T (k + 2)) 17 := fun M a P r ev Q h1 h2 h3 h4 hq => cs17 rfl (follow_ok (c_of k) (c_beg k) (c_beh k) h1 h2 h3 h4 fun M' s => ⟨M', Pl.Sub.refl _, hq M' s⟩)
theorem c_same0 : ∀ (n k : Nat), SameE (Cs T (k + n + 1)) 29 n
  | 0, k => fun M u Q h hq => cs29 rfl (lsame_ok (fun i e => by cases e) h ⟨M, Pl.Sub.refl _, hq⟩)
  | n + 1, k => fun M u Q h hq => cs29 rfl (lsame_ok (n := n + 1) (fun i e => by cases e; exact c_same0 n k) h ⟨M, Pl.Sub.refl _, hq⟩)
theorem c_same (n k : Nat) (h : n ≤ 6) : SameE (Cs T (k + 7)) 29 n := by
  have := c_same0 n (k + (6 - n))
  rwa [show k + (6 - n) + n + 1 = k + 7 by omega] at this
theorem c_any (k : Nat) : AnyC (Cs T (k + 3)) 30 := fun M p wa W Q d h1 h2 h3 h4 h5 hq => cs30 rfl (any_ok (c_pick k) (c_draw (k + 1)) d h1 h2 h3 h4 h5 fun s M' g1 g2 g3 => ⟨M', Pl.Sub.refl _, hq s M' g1 g2 g3⟩)
theorem c_pool (k : Nat) : PoolC (Cs T (k + 3)) 31 := fun M p na fa nl fl Q d h1 h2 h3 h4 h5 h6 h7 h8 hq => cs31 rfl (pool_ok (c_draw (k + 1)) (c_pick k) d h1 h2 h3 h4 h5 h6 h7 h8 fun r P M' g1 g2 g3 g4 g5 g6 => ⟨M', Pl.Sub.refl _, hq r P M' g1 g2 g3 g4 g5 g6⟩)
theorem c_next (k : Nat) : AfterC (Cs T (k + 1)) 32 := fun M t ev Q h1 h2 hq => cs32 rfl (next_ok h1 h2 ⟨M, Pl.Sub.refl _, hq⟩)
theorem c_lans (k : Nat) : LAnsC (Cs T (k + 2)) 33 := fun M m ml room P tb r ev Q h1 h2 h3 h4 hq => cs33 rfl (answer_ok (c_next k) h1 h2 h3 h4 ⟨M, Pl.Sub.refl _, hq⟩)
theorem c_lput (k : Nat) : LPutC (Cs T (k + 1)) 34 := fun M m ml room P tb p Q h1 h2 h3 h4 h5 q1 q2 => cs34 rfl (lput_ok h1 h2 h3 h4 h5 (fun h => ⟨M, Pl.Sub.refl _, q1 h⟩) fun h => ⟨_, Pl.Sub.refl _, q2 h⟩)
theorem c_lev (k : Nat) : LEvC (Cs T (k + 3)) 35 := fun M p po P Q d h1 h2 h3 h4 h5 hq => cs35 rfl (lev_ok (c_draw (k + 1)) (c_pick k) d h1 h2 h3 h4 h5 fun r ev M' g1 g2 g3 g4 => ⟨M', Pl.Sub.refl _, hq r ev M' g1 g2 g3 g4⟩)
theorem c_ltab (k : Nat) : LTabC (Cs T (k + 4)) 36 := fun M p po wa P W Q d h1 h2 h3 h4 h5 h6 h7 h8 h9 h10 hq => cs36 rfl (ltab_ok (c_draw (k + 2)) (c_any k) (c_lev k) d h1 h2 h3 h4 h5 h6 h7 h8 h9 h10 fun T M' g1 g2 g3 => ⟨M', Pl.Sub.refl _, hq T M' g1 g2 g3⟩)
theorem c_ahold (k : Nat) : AHoldC (Cs T (k + 8)) 37 := fun M a pl m ml room P tb r ev Q h1 h2 h3 h4 h5 hq => cs37 rfl (ahold_ok (fun n hn => c_same n k hn) (c_lans (k + 5)) (c_cans (k + 3)) h1 h2 h3 h4 h5 ⟨M, Pl.Sub.refl _, hq⟩)
theorem c_shold (k : Nat) : SHoldC (Cs T (k + 8)) 38 := fun M a pl m ml room P tb Q h1 h2 h3 h4 hq => cs38 rfl (shold_ok (fun n hn => c_same n k hn) (c_chon (k + 6)) (c_cpap (k + 6)) h1 h2 h3 h4 ⟨M, Pl.Sub.refl _, hq⟩)
theorem c_fil (k : Nat) : FilC (Cs T (k + 9)) 39 := fun M ff fl s nm Q h1 h2 h3 h4 h5 h6 h7 h8 hq => cs39 rfl (filled_ok (c_shold k) (fun n hn => c_same n (k + 1) hn) (c_lput (k + 7)) (c_cput (k + 7)) h1 h2 h3 h4 h5 h6 h7 h8 fun M' s' g1 g2 g3 g4 => ⟨M', Pl.Sub.refl _, hq M' s' g1 g2 g3 g4⟩)
theorem c_fhold (k : Nat) : FHoldC (Cs T (k + 8)) 40 := fun M sh a pl m ml room P tb r ev Q h1 h2 h3 h4 h5 h6 h7 hq => cs40 rfl (fhold_ok (c_cans (k + 3)) (fun n hn => c_same n k hn) (c_fol (k + 5)) (c_next (k + 6)) (Ps := []) h1 h2 h3 h4 h5 h6 h7 fun M' s => ⟨M', Pl.Sub.refl _, hq M' s⟩)
theorem c_all (k : Nat) : AllC (Cs T (k + 9)) 41 := fun M p po wl ms cs pool W s t Q w h1 h2 hq => cs41 rfl (all_ok (c_ahold k) (c_fhold k) (c_sinit (k + 6)) (c_cpap (k + 7)) w h1 h2 fun M' => ⟨M', Pl.Sub.refl _, hq M'⟩)
end K71

set_option maxHeartbeats 2000000
/-! k71: the law -/
namespace K71
open PySem L2 Pl
structure Liv (M : Hm) (L : List Addr) : Prop where
  nd : L.Nodup
  has : ∀ x ∈ L, ∃ o, M x = some o
theorem Liv.new {M : Hm} {L : List Addr} {a : Addr} {o : MO} (h : Liv M L) (ha : M a = none) : Liv (um M a o) (a :: L) :=
  ⟨List.nodup_cons.mpr ⟨(fun hx => by obtain ⟨o', e⟩ := h.has a hx; rw [ha] at e; cases e), h.nd⟩, fun x hx => by
    rcases List.mem_cons.mp hx with rfl | hx
    · exact ⟨_, um_same⟩
    · obtain ⟨o', e⟩ := h.has x hx; exact ⟨o', um_old e ha⟩⟩
theorem Liv.sub {M M' : Hm} {L : List Addr} (h : Liv M L) (s : Sub M M') : Liv M' L := ⟨h.nd, fun x hx => by obtain ⟨o, e⟩ := h.has x hx; exact ⟨o, s _ _ e⟩⟩
theorem Liv.fr {M M' : Hm} {L : List Addr} {p : Addr × Addr} (h : Liv M L) (d : Dr M' p) (f : Fr p M M') : Liv M' L := ⟨h.nd, fun x hx => by
  by_cases e : x = p.1
  · rw [e]; exact d.mem
  · obtain ⟨o, e2⟩ := h.has x hx; exact ⟨o, f x e o e2⟩⟩
theorem Liv.ne {M : Hm} {L : List Addr} {a x : Addr} (h : Liv M L) (ha : M a = none) (hx : x ∈ L) : x ≠ a := fun e => by
  obtain ⟨o, e2⟩ := h.has x hx
  rw [e, ha] at e2; cases e2
theorem Liv.sl {M : Hm} {L L' : List Addr} (h : Liv M L) (s : L'.Sublist L) : Liv M L' := ⟨h.nd.sublist s, fun x hx => h.has x (s.subset hx)⟩
theorem strs_of {ws us : List U} {l : List Str} (h : ws.Perm us) (e : us = l.map U.str) (ho : ∀ x ∈ l, okS x = true) : ∃ k : List Str, ws = k.map U.str ∧ k.length = l.length ∧ ∀ x ∈ k, okS x = true := by
  have key : ∀ {ws : List U}, (∀ w ∈ ws, ∃ s, w = U.str s ∧ okS s = true) → ∃ k : List Str, ws = k.map U.str ∧ ∀ x ∈ k, okS x = true := by
    intro ws
    induction ws with
    | nil => exact fun _ => ⟨[], rfl, fun x h => nomatch h⟩
    | cons w ws ih =>
      intro hw
      obtain ⟨s, e, hs⟩ := hw w (by simp)
      obtain ⟨k, e2, hk⟩ := ih fun v hv => hw v (List.mem_cons_of_mem _ hv)
      exact ⟨s :: k, by rw [e, e2]; rfl, fun x hx => by
        rcases List.mem_cons.mp hx with rfl | hx
        · exact hs
        · exact hk x hx⟩
  obtain ⟨k, e2, hk⟩ := key (ws := ws) fun w hw => by
    have := h.mem_iff.mp hw
    rw [e] at this
    obtain ⟨s, hs, rfl⟩ := List.mem_map.mp this
    exact ⟨s, rfl, ho s hs⟩
  refine ⟨k, e2, ?_, hk⟩
  have := h.length_eq
  rw [e, e2, List.length_map, List.length_map] at this
  exact this
def bTurns : S := (.seq (.for_ (.one 9) (.iRange (.bin .add (.int 8) (.call 23 (.cons (.var 1) (.cons (.int 8) .nil))))) (.seq (.asg 10 (.call 23 (.cons (.var 1) (.cons (.int 2) .nil)))) (.seq (.ifs (.call 25 (.cons (.var 1) (.cons (.int 9) .nil))) (.seq (.asg 11 (.call 36 (.cons (.var 1) (.cons (.var 4) (.cons (.var 5) .nil))))) (.seq (.setIx (.ix (.var 6) (.var 10)) (.int 2) (.var 11)) (.seq (.ifs (.notN (.meth "Cache" "corrupt" 9 (.ix (.var 8) (.var 10)) (.cons (.var 11) .nil))) (.seq (.ret (.bl false)) .skip) .skip) .skip))) (.seq (.asg 12 (.call 24 (.cons (.var 1) (.cons (.var 4) .nil)))) (.seq (.ifs (.not (.call 29 (.cons (.meth "Cache" "put" 7 (.ix (.var 8) (.var 10)) (.cons (.var 12) .nil)) (.cons (.call 34 (.cons (.ix (.var 6) (.var 10)) (.cons (.var 12) .nil))) .nil)))) (.seq (.ret (.bl false)) .skip) .skip) .skip))) (.seq (.asgT [13, 14] (.call 35 (.cons (.var 1) (.cons (.var 4) .nil)))) (.seq (.for_ (.one 15) (.iRange (.int 2)) (.seq (.ifs (.not (.call 38 (.cons (.ix (.var 8) (.var 15)) (.cons (.ix (.var 6) (.var 15)) .nil)))) (.seq (.ret (.bl false)) .skip) .skip) (.seq (.ifs (.not (.call 37 (.cons (.ix (.var 8) (.var 15)) (.cons (.ix (.var 6) (.var 15)) (.cons (.var 13) (.cons (.var 14) .nil)))))) (.seq (.ret (.bl false)) .skip) .skip) .skip))) .skip))))) (.seq (.ret (.call 41 (.cons (.var 8) (.cons (.var 6) (.cons (.var 4) .nil))))) .skip))
def bHead (X : S) : S := (.seq (.asg 1 (.call 22 (.cons (.var 0) .nil))) (.seq (.asg 2 (.call 26 (.cons (.var 1) (.cons (.call 28 .nil) .nil)))) (.seq (.asg 3 (.call 26 (.cons (.var 1) (.cons (.call 27 .nil) .nil)))) (.seq (.asg 4 (.call 31 (.cons (.var 1) (.cons (.var 2) (.cons (.var 3) .nil))))) (.seq (.asg 5 (.bin .add (.bin .add (.slice (.var 2) .nil (.int 3)) (.slice (.var 3) .nil (.int 3))) (.lst (.cons (.str "else") (.cons (.str "") (.cons (.str "Ab") (.cons (.str "ninechars") .nil))))))) (.seq (.asg 6 (.lst (.cons (.lst (.cons (.bin .add (.int 1) (.call 23 (.cons (.var 1) (.cons (.int 4) .nil)))) (.cons (.lst .nil) (.cons .non .nil)))) (.cons (.lst (.cons (.bin .add (.int 1) (.call 23 (.cons (.var 1) (.cons (.int 8) .nil)))) (.cons (.lst .nil) (.cons .non .nil)))) .nil)))) (.seq (.asg 7 (.call 25 (.cons (.var 1) (.cons (.int 9) .nil)))) (.seq (.ifs (.var 7) (.seq (.setIx (.var 6) (.int 1) (.lst (.cons (.bin .add (.int 58) (.call 23 (.cons (.var 1) (.cons (.int 3) .nil)))) (.cons (.lst .nil) (.cons .non .nil))))) .skip) .skip) (.seq (.asg 8 (.lst (.cons (.make "Cache" 4 (.cons (.ix (.ix (.var 6) (.int 0)) (.int 0)) .nil)) (.cons (.make "Cache" 4 (.cons (.ix (.ix (.var 6) (.int 1)) (.int 0)) .nil)) .nil)))) (.seq (.ifs (.ands (.cons (.var 7) (.cons (.not (.call 39 (.cons (.var 3) (.cons (.ix (.var 6) (.int 1)) (.cons (.ix (.var 8) (.int 1)) (.cons (.ix (.var 2) (.int 0)) .nil)))))) .nil))) (.seq (.ret (.bl false)) .skip) .skip) X))))))))))
theorem b42_eq : b42 = bHead bTurns := rfl
/-- the turns, and the end -/
theorem turns {ns : List Int} {M : Hm} {p : Addr × Addr} {na fa po wl ms cs : Addr} {il : Bool} {pool : List Pap} {W : List Str} {s t : Sd} {bk ct nx : SU → Hm → Prop} (w : Wd M p po wl ms cs pool W s t) (hl : pool.length = 7) (ho : ∀ q ∈ pool, PolOk q) (hwl : W.length = 10) (hwo : ∀ x ∈ W, okS x = true) :
    wS (Cs T 39) bTurns ⟨nx, fun u M => ∃ M2, Sub M2 M ∧ (fun u _ => u = U.bl true) u M2, bk, ct⟩ [some (.rol (ns.map U.int)), some (.ref p.1), some (.ref na), some (.ref fa), some (.ref po), some (.ref wl), some (.ref ms), some (.bl il), some (.ref cs), none, none, none, none, none, none, none] M := by
  have hpn : pool ≠ [] := fun z => by rw [z] at hl; cases hl
  have hwn : W ≠ [] := fun z => by rw [z] at hwl; cases hwl
  unfold bTurns
  (repeat decreasing_trivial_pre_omega)
  refine (c_draw 38).lt M p 8 _ w.dr (by decide) (by decide) fun many M1 hmany d1 f1 => ?_
  have w1 := w.fr d1 f1
  (repeat decreasing_trivial_pre_omega)
  rw [show (8 : Int) + (many : Int) = ((8 + many : Nat) : Int) by omega]
  refine ⟨by simp only [LIM]; omega, by simp only [LIM]; omega, ?_⟩
  refine forL_nat (fun i σ M' => (∃ u9 u10 u11 u12 u13 u14 u15, σ = [some (.rol (ns.map U.int)), some (.ref p.1), some (.ref na), some (.ref fa), some (.ref po), some (.ref wl), some (.ref ms), some (.bl il), some (.ref cs), u9, u10, u11, u12, u13, u14, u15]) ∧ ∃ s t : Sd, Wd M' p po wl ms cs pool W s t) (8 + many) ⟨⟨_, _, _, _, _, _, _, rfl⟩, s, t, w1⟩ ?_ ?_
  · intro i σ M2 k hi ⟨⟨u9, u10, u11, u12, u13, u14, u15, e⟩, s, t, w2⟩ hk
    subst e
    clear w w1 f1 d1
    have pn : po ≠ p.1 := fun z => by have := w2.nd; rw [z] at this; simp at this
    have wn : wl ≠ p.1 := fun z => by have := w2.nd; rw [z] at this; simp at this
    (repeat decreasing_trivial_pre_omega)
    refine (c_draw 38).lt M2 p 2 _ w2.dr (by decide) (by decide) fun at_ M3 hat d3 f3 => ?_
    have w3 := w2.fr d3 f3
    clear w2 f3 d3
    (repeat ((fail_if_success (with_reducible refine Pl.z_ifs ?_)); decreasing_trivial_pre_omega))
    refine z_cutR fun R eR => ?_
    have key : ∀ (s t : Sd) (u11 u12 : Option U) (M : Hm), Wd M p po wl ms cs pool W s t → R [some (.rol (ns.map U.int)), some (.ref p.1), some (.ref na), some (.ref fa), some (.ref po), some (.ref wl), some (.ref ms), some (.bl il), some (.ref cs), some (.int (i : Nat)), some (.int (at_ : Nat)), u11, u12, u13, u14, u15] M := by
      rw [eR]
      intro s t u11 u12 M4 w4
      (repeat decreasing_trivial_pre_omega)
      refine c_lev 36 M4 p po pool _ w4.dr pn w4.hpo hpn (by omega) ho fun r ev M5 hr hev d5 f5 => ?_
      have w5 := w4.fr d5 f5
      simp only [trU]
      (repeat decreasing_trivial_pre_omega)
      refine ⟨by decide, by decide, ?_⟩
      refine forL_nat (n := 2) (fun j σ M' => (∃ u15, σ = [some (.rol (ns.map U.int)), some (.ref p.1), some (.ref na), some (.ref fa), some (.ref po), some (.ref wl), some (.ref ms), some (.bl il), some (.ref cs), some (.int (i : Nat)), some (.int (at_ : Nat)), u11, u12, some (.str r), some (.tup (ev.map encE)), u15]) ∧ Wd M' p po wl ms cs pool W s t) ⟨⟨_, rfl⟩, w5⟩ ?_ ?_
      · intro j σ M6 k2 hj ⟨⟨u15, e⟩, w6⟩ hk2
        subst e
        obtain ⟨u, hu, uat, uok, ur, i1, i2⟩ := w6.side hj
        have wms := w6.hms
        have wcs := w6.hcs
        (repeat decreasing_trivial_pre_omega)
        refine x_lst wcs i2 ?_
        (repeat decreasing_trivial_pre_omega)
        refine x_lst wms i1 ?_
        (repeat decreasing_trivial_pre_omega)
        refine c_shold 31 _ _ _ _ _ _ _ _ _ uat.ca uat.mo (by have := uok.len; have := uok.room; omega) uok.ok ?_
        (repeat decreasing_trivial_pre_omega)
        refine x_lst wcs i2 ?_
        (repeat decreasing_trivial_pre_omega)
        refine x_lst wms i1 ?_
        (repeat decreasing_trivial_pre_omega)
        refine c_ahold 31 _ _ _ _ _ _ _ _ _ ev _ uat.ca uat.mo uok.ok uok.tb hev ?_
        (repeat decreasing_trivial_pre_omega)
        exact hk2 _ _ trivial ⟨⟨_, rfl⟩, w6⟩
      · intro σ M6 ⟨⟨u15, e⟩, w6⟩
        subst e
        (repeat decreasing_trivial_pre_omega)
        exact hk _ _ trivial ⟨⟨_, _, _, _, _, _, _, rfl⟩, s, t, w6⟩
    (repeat decreasing_trivial_pre_omega)
    refine c_rare 37 M3 p 9 _ w3.dr (by decide) (by decide) fun ra M4 d4 f4 => ?_
    have w4 := w3.fr d4 f4
    clear w3 f4 d4
    cases ra with
    | true =>
      (repeat decreasing_trivial_pre_omega)
      refine c_ltab 35 M4 p po wl pool W _ w4.dr pn w4.hpo hpn (by omega) ho wn w4.hwl hwn (by omega) hwo fun Tt M5 hTt d5 f5 => ?_
      have w5 := w4.fr d5 f5
      clear w4 f5 d5
      obtain ⟨u, hu, uat, uok, ur, i1, i2⟩ := w5.side hat
      have wms := w5.hms
      have nd := uok.dis
      simp only [Sd.cells, List.nodup_cons, List.mem_cons, List.not_mem_nil, or_false, not_or] at nd
      obtain ⟨⟨n1, n2, n3⟩, ⟨n4, n5⟩, n6, _⟩ := nd
      (repeat decreasing_trivial_pre_omega)
      refine x_lst wms i1 ?_
      (repeat decreasing_trivial_pre_omega)
      refine st_lst (k := 2) (v := .tup (Tt.map entU)) uat.mo.ob (by rfl) ?_
      have hm : (um M5 u.m (.lst ([U.int (u.room : Nat), .ref u.ml, tabU u.tb].set 2 (.tup (Tt.map entU))))) u.m = some (.lst [.int (u.room : Nat), .ref u.ml, tabU (some Tt)]) := um_same
      have wcs : (um M5 u.m (.lst ([U.int (u.room : Nat), .ref u.ml, tabU u.tb].set 2 (.tup (Tt.map entU))))) cs = some (.lst [.ref s.a, .ref t.a]) := um_oth (fun z => by
        rcases hu with ⟨rfl, _⟩ | ⟨rfl, _⟩
        · exact w5.not0 cs (by simp) (by rw [z]; simp [Sd.cells])
        · exact w5.not1 cs (by simp) (by rw [z]; simp [Sd.cells])) w5.hcs
      have hca : CaAt (um M5 u.m (.lst ([U.int (u.room : Nat), .ref u.ml, tabU u.tb].set 2 (.tup (Tt.map entU))))) u.a u.pl u.room u.P u.tb := ⟨um_oth n2 uat.ca.ob, um_oth n4 uat.ca.ps⟩
      have hml : (um M5 u.m (.lst ([U.int (u.room : Nat), .ref u.ml, tabU u.tb].set 2 (.tup (Tt.map entU))))) u.ml = some (.lst (u.P.map papU)) := um_oth (Ne.symm n6) uat.mo.ps
      have fm : Frs u.cells M5 (um M5 u.m (.lst ([U.int (u.room : Nat), .ref u.ml, tabU u.tb].set 2 (.tup (Tt.map entU))))) := fun b hb x e => by rw [um_ne (fun z => hb (by rw [z]; simp [Sd.cells]))]; exact e
      generalize um M5 u.m (.lst ([U.int (u.room : Nat), .ref u.ml, tabU u.tb].set 2 (.tup (Tt.map entU)))) = M6 at *
      have hob := hca.ob
      (repeat decreasing_trivial_pre_omega)
      refine x_lst wcs i2 ?_
      (repeat decreasing_trivial_pre_omega)
      refine c_ccor 38 M6 _ _ _ _ _ Tt _ hca fun M7 f7 c7 => ?_
      have fr7 : Frs u.cells M5 M7 := fun b hb x e => f7 b (fun z => hb (by rw [z]; simp [Sd.cells])) x (fm b hb x e)
      have at7 : ({ u with tb := some Tt } : Sd).At M7 := ⟨c7, ⟨f7 _ (Ne.symm n2) _ hm, f7 _ (Ne.symm n3) _ hml⟩⟩
      have ok7 : ({ u with tb := some Tt } : Sd).Ok := ⟨uok.nd, uok.ok, fun T' e => by injection e with e; rw [← e]; exact hTt, uok.len, uok.room, uok.dis⟩
      (repeat decreasing_trivial_pre_omega)
      rcases hu with ⟨rfl, _⟩ | ⟨rfl, _⟩
      · exact key _ t _ _ M7 (w5.up0 fr7 at7 ok7 ⟨rfl, rfl, rfl, rfl, rfl⟩)
      · exact key s _ _ _ M7 (w5.up1 fr7 at7 ok7 ⟨rfl, rfl, rfl, rfl, rfl⟩)
    | false =>
      (repeat decreasing_trivial_pre_omega)
      refine c_pick 37 M4 p _ _ _ w4.dr (.inr ⟨po, rfl, pn, w4.hpo⟩) (fun z => hpn (List.map_eq_nil_iff.mp z)) (by rw [List.length_map]; omega) fun x M5 hx d5 f5 => ?_
      obtain ⟨pp, hpp, rfl⟩ := List.mem_map.mp hx
      have hpo := (ho pp hpp).pap
      have w5 := w4.fr d5 f5
      clear w4 f5 d5
      obtain ⟨u, hu, uat, uok, ur, i1, i2⟩ := w5.side hat
      have wcs := w5.hcs
      have hob := uat.ca.ob
      (repeat decreasing_trivial_pre_omega)
      refine x_lst wcs i2 ?_
      (repeat decreasing_trivial_pre_omega)
      refine put1 (c_cput 38) uat uok hpo fun b M6 ph f6 => ?_
      have wms : M6 ms = some (.lst [.ref s.m, .ref t.m]) := f6 ms (by
        rcases hu with ⟨rfl, _⟩ | ⟨rfl, _⟩
        · exact w5.not0 ms (by simp)
        · exact w5.not1 ms (by simp)) _ w5.hms
      (repeat decreasing_trivial_pre_omega)
      refine x_lst wms i1 ?_
      (repeat decreasing_trivial_pre_omega)
      refine put2 (c_lput 38) ph uat uok ur hpo fun M7 u' a7 o7 l7 f7 => ?_
      (repeat decreasing_trivial_pre_omega)
      refine c_same 0 32 (by decide) _ _ _ rfl ?_
      (repeat decreasing_trivial_pre_omega)
      rcases hu with ⟨rfl, _⟩ | ⟨rfl, _⟩
      · exact key _ t _ _ M7 (w5.up0 f7 a7 o7 l7)
      · exact key s _ _ _ M7 (w5.up1 f7 a7 o7 l7)
  · intro σ M2 ⟨⟨u9, u10, u11, u12, u13, u14, u15, e⟩, s, t, w2⟩
    subst e
    (repeat decreasing_trivial_pre_omega)
    exact c_all 30 M2 p po wl ms cs pool W s t _ w2 hl ho fun M' => ⟨M', Pl.Sub.refl _, rfl⟩
theorem law_true (ns : List Int) (hns : ns.length ≤ 63) : Cs T depth 42 [.rol (ns.map U.int)] (fun _ => none) (fun u _ => u = .bl true) := by
  have hlim : LIM = 100000 := rfl
  refine cs42 (k := 39) rfl ?_
  rw [b42_eq]
  have tail := @turns ns
  generalize bTurns = X at tail ⊢
  unfold bHead
  (repeat decreasing_trivial_pre_omega)
  refine cs22 (k := 38) rfl (begin_ok hns fun p M0 s0 d0 => ⟨M0, Pl.Sub.refl _, ?_⟩)
  have L0 : Liv M0 [p.2, p.1] := by
    obtain ⟨cells, a, b, c, hn, hp, hc, hi⟩ := d0
    refine ⟨by simp [hn], fun x hx => ?_⟩
    simp only [List.mem_cons, List.not_mem_nil, or_false] at hx
    rcases hx with rfl | rfl
    · exact ⟨_, hc⟩
    · exact ⟨_, hp⟩
  (repeat decreasing_trivial_pre_omega)
  refine c_rules 38 _ _ fun r1 l1 M1 s1 _ hr1 hl1 ho1 => ?_
  have d1 := d0.sub s1
  (repeat decreasing_trivial_pre_omega)
  refine c_shuf 37 M1 p r1 _ _ d1 hr1 (by rw [List.length_map]; omega) fun na ws M2 hp2 d2 f2 nn _ _ hna => ?_
  obtain ⟨nl, rfl, hnl, hno⟩ := strs_of hp2 rfl ho1
  have L2 := (L0.sub s1).fr d2 f2
  (repeat decreasing_trivial_pre_omega)
  refine c_files 38 _ _ fun r3 l3 M3 s3 _ hr3 hl3 ho3 => ?_
  have d3 := d2.sub s3
  have hna3 := s3 _ _ hna
  (repeat decreasing_trivial_pre_omega)
  refine c_shuf 37 M3 p r3 _ _ d3 hr3 (by rw [List.length_map]; omega) fun fa ws M4 hp4 d4 f4 fn fn2 hfN hfa => ?_
  obtain ⟨fl, rfl, hfl, hfo⟩ := strs_of hp4 rfl ho3
  have L4 : Liv M4 (fa :: [p.2, p.1]) := by
    have h3 := L2.sub s3
    have h4 := h3.fr d4 f4
    refine ⟨List.nodup_cons.mpr ⟨(fun hx => ?_), h4.nd⟩, fun x hx => ?_⟩
    · simp only [List.mem_cons, List.not_mem_nil, or_false] at hx
      rcases hx with h | h
      · exact fn2 h
      · exact fn h
    · rcases List.mem_cons.mp hx with rfl | hx
      · exact ⟨_, hfa⟩
      · exact h4.has x hx
  have hna4 := f4.at_ nn hna3
  clear hna hna3 hr1 hr3 hp2 hp4
  (repeat decreasing_trivial_pre_omega)
  refine c_pool 36 M4 p na fa nl fl _ d4 nn fn hna4 (by omega) hno hfa (by omega) hfo fun po pool M5 hpN hpo hpl hpk d5 f5 => ?_
  have L5 : Liv M5 (po :: fa :: [p.2, p.1]) := by
    have h5 := L4.fr d5 f5
    exact ⟨List.nodup_cons.mpr ⟨(fun hx => L4.ne hpN hx rfl), h5.nd⟩, fun x hx => by
      rcases List.mem_cons.mp hx with rfl | hx
      · exact ⟨_, hpo⟩
      · exact h5.has x hx⟩
  have hna5 := f5.at_ nn hna4
  have hfa5 := f5.at_ fn hfa
  clear hna4 hfa f5
  (repeat decreasing_trivial_pre_omega)
  rw [show (3 : Int) = ((3 : Nat) : Int) from rfl, cutU_take, ← List.map_take]
  intro x1 hx1
  have g1 := um_same (M := M5) (a := x1) (o := .lst ((nl.take 3).map U.str))
  have hfa6 := um_old (o := .lst ((nl.take 3).map U.str)) hfa5 hx1
  (repeat decreasing_trivial_pre_omega)
  rw [cutU_take, ← List.map_take]
  intro x2 hx2
  refine o_addL (um_old g1 hx2) um_same (by rw [List.length_map, List.length_map, List.length_take, List.length_take]; omega) fun x3 hx3 => ?_
  rw [← List.map_append]
  have g3 := um_same (M := um (um M5 x1 (.lst ((nl.take 3).map U.str))) x2 (.lst ((fl.take 3).map U.str))) (a := x3) (o := .lst ((nl.take 3 ++ fl.take 3).map U.str))
  (repeat decreasing_trivial_pre_omega)
  intro x4 hx4
  refine o_addL (um_old g3 hx4) um_same (by rw [List.length_map, List.length_append, List.length_take, List.length_take]; simp; omega) fun wl hwl => ?_
  have hW : (nl.take 3 ++ fl.take 3).map U.str ++ [U.str "else", .str "", .str "Ab", .str "ninechars"] = ((nl.take 3 ++ fl.take 3) ++ (["else", "", "Ab", "ninechars"] : List Str)).map U.str := by simp
  rw [hW]
  have hWl : ((nl.take 3 ++ fl.take 3) ++ (["else", "", "Ab", "ninechars"] : List Str)).length = 10 := by
    rw [List.length_append, List.length_append, List.length_take, List.length_take, hnl, hl1, hfl, hl3]; rfl
  have hWo : ∀ x ∈ ((nl.take 3 ++ fl.take 3) ++ (["else", "", "Ab", "ninechars"] : List Str)), okS x = true := by
    intro x hx
    rcases List.mem_append.mp hx with hx | hx
    · rcases List.mem_append.mp hx with hx | hx
      · exact hno x (List.mem_of_mem_take hx)
      · exact hfo x (List.mem_of_mem_take hx)
    · have : ∀ y ∈ (["else", "", "Ab", "ninechars"] : List Str), okS y = true := by decide +kernel
      exact this x hx
  generalize ((nl.take 3 ++ fl.take 3) ++ (["else", "", "Ab", "ninechars"] : List Str)) = W at hWl hWo ⊢
  have L9 := ((((L5.new (o := .lst ((nl.take 3).map U.str)) hx1).new (o := .lst ((fl.take 3).map U.str)) hx2).new (o := .lst ((nl.take 3 ++ fl.take 3).map U.str)) hx3).new (o := .lst [U.str "else", .str "", .str "Ab", .str "ninechars"]) hx4).new (o := .lst (W.map U.str)) hwl
  have d9 := ((((d5.upd (o := .lst ((nl.take 3).map U.str)) hx1).upd (o := .lst ((fl.take 3).map U.str)) hx2).upd (o := .lst ((nl.take 3 ++ fl.take 3).map U.str)) hx3).upd (o := .lst [U.str "else", .str "", .str "Ab", .str "ninechars"]) hx4).upd (o := .lst (W.map U.str)) hwl
  have s9 : Sub M5 _ := sub_new (o := .lst (W.map U.str)) (sub_new (o := .lst [U.str "else", .str "", .str "Ab", .str "ninechars"]) (sub_new (o := .lst ((nl.take 3 ++ fl.take 3).map U.str)) (sub_new (o := .lst ((fl.take 3).map U.str)) (sub_new (o := .lst ((nl.take 3).map U.str)) (Sub.refl M5) hx1) hx2) hx3) hx4) hwl
  have hwl9 := um_same (M := um (um (um (um M5 x1 (.lst ((nl.take 3).map U.str))) x2 (.lst ((fl.take 3).map U.str))) x3 (.lst ((nl.take 3 ++ fl.take 3).map U.str))) x4 (.lst [U.str "else", .str "", .str "Ab", .str "ninechars"])) (a := wl) (o := .lst (W.map U.str))
  have hna9 := s9 _ _ hna5
  have hfa9 := s9 _ _ hfa5
  have hpo9 := s9 _ _ hpo
  generalize um (um (um (um (um M5 x1 (.lst ((nl.take 3).map U.str))) x2 (.lst ((fl.take 3).map U.str))) x3 (.lst ((nl.take 3 ++ fl.take 3).map U.str))) x4 (.lst [U.str "else", .str "", .str "Ab", .str "ninechars"])) wl (.lst (W.map U.str)) = M9 at L9 d9 hwl9 hna9 hfa9 hpo9 ⊢
  have L9 : Liv M9 [wl, po, fa, p.2, p.1] := L9.sl (.cons₂ _ (.cons _ (.cons _ (.cons _ (.cons _ (List.Sublist.refl _))))))
  clear hna5 hfa5 hpo s9 g1 g3 hfa6 hx1 hx2 hx3 hx4 hwl L5 L4 L2 L0 d5 d4 d3 d2 d1 d0
  have wn : wl ≠ p.1 := fun z => by have := L9.nd; rw [z] at this; simp at this
  have pn : po ≠ p.1 := fun z => by have := L9.nd; rw [z] at this; simp at this
  (repeat decreasing_trivial_pre_omega)
  refine (c_draw 38).lt M9 p 4 _ d9 (by decide) (by decide) fun k0 M10 hk0 d10 f10 => ?_
  have L10 := L9.fr d10 f10
  have hwl10 := f10.at_ wn hwl9
  have hna10 := f10.at_ nn hna9
  have hfa10 := f10.at_ fn hfa9
  have hpo10 := f10.at_ pn hpo9
  obtain ⟨room0, er0, hr0, hr0'⟩ : ∃ n : Nat, (1 : Int) + (k0 : Nat) = (n : Nat) ∧ 1 ≤ n ∧ n ≤ 100 := ⟨1 + k0, by omega, by omega, by omega⟩
  (repeat decreasing_trivial_pre_omega)
  rw [er0]
  intro ml0 hml0
  (repeat decreasing_trivial_pre_omega)
  intro m0 hm0
  have L12 := (L10.new (o := .lst []) hml0).new (o := .lst [.int (room0 : Nat), .ref ml0, .non]) hm0
  have d12 := (d10.upd (o := .lst []) hml0).upd (o := .lst [.int (room0 : Nat), .ref ml0, .non]) hm0
  have s12 : Sub M10 _ := sub_new (o := .lst [.int (room0 : Nat), .ref ml0, .non]) (sub_new (o := .lst []) (Sub.refl M10) hml0) hm0
  have hm0a := um_same (M := um M10 ml0 (.lst [])) (a := m0) (o := .lst [.int (room0 : Nat), .ref ml0, .non])
  have hml0a := um_old (o := .lst [.int (room0 : Nat), .ref ml0, .non]) (um_same (M := M10) (a := ml0) (o := .lst [])) hm0
  have hwl12 := s12 _ _ hwl10
  have hna12 := s12 _ _ hna10
  have hfa12 := s12 _ _ hfa10
  have hpo12 := s12 _ _ hpo10
  generalize um (um M10 ml0 (.lst [])) m0 (.lst [.int (room0 : Nat), .ref ml0, .non]) = M12 at L12 d12 hm0a hml0a hwl12 hna12 hfa12 hpo12 ⊢
  clear s12 hml0 hm0 L10 d10
  have m0n : m0 ≠ p.1 := fun z => by have := L12.nd; rw [z] at this; simp at this
  have ml0n : ml0 ≠ p.1 := fun z => by have := L12.nd; rw [z] at this; simp at this
  (repeat decreasing_trivial_pre_omega)
  refine (c_draw 38).lt M12 p 8 _ d12 (by decide) (by decide) fun k1 M13 hk1 d13 f13 => ?_
  have L13 := L12.fr d13 f13
  have hwl13 := f13.at_ wn hwl12
  have hna13 := f13.at_ nn hna12
  have hfa13 := f13.at_ fn hfa12
  have hpo13 := f13.at_ pn hpo12
  have hm013 := f13.at_ m0n hm0a
  have hml013 := f13.at_ ml0n hml0a
  obtain ⟨room1, er1, hr1, hr1'⟩ : ∃ n : Nat, (1 : Int) + (k1 : Nat) = (n : Nat) ∧ 1 ≤ n ∧ n ≤ 100 := ⟨1 + k1, by omega, by omega, by omega⟩
  (repeat decreasing_trivial_pre_omega)
  rw [er1]
  intro ml1 hml1
  (repeat decreasing_trivial_pre_omega)
  intro m1 hm1
  (repeat decreasing_trivial_pre_omega)
  intro ms hms
  have L16 := ((L13.new (o := .lst []) hml1).new (o := .lst [.int (room1 : Nat), .ref ml1, .non]) hm1).new (o := .lst [.ref m0, .ref m1]) hms
  have d16 := ((d13.upd (o := .lst []) hml1).upd (o := .lst [.int (room1 : Nat), .ref ml1, .non]) hm1).upd (o := .lst [.ref m0, .ref m1]) hms
  have s16 : Sub M13 _ := sub_new (o := .lst [.ref m0, .ref m1]) (sub_new (o := .lst [.int (room1 : Nat), .ref ml1, .non]) (sub_new (o := .lst []) (Sub.refl M13) hml1) hm1) hms
  have hms16 := um_same (M := um (um M13 ml1 (.lst [])) m1 (.lst [.int (room1 : Nat), .ref ml1, .non])) (a := ms) (o := .lst [.ref m0, .ref m1])
  have hm116 := um_old (o := .lst [.ref m0, .ref m1]) (um_same (M := um M13 ml1 (.lst [])) (a := m1) (o := .lst [.int (room1 : Nat), .ref ml1, .non])) hms
  have hml116 := um_old (o := .lst [.ref m0, .ref m1]) (um_old (o := .lst [.int (room1 : Nat), .ref ml1, .non]) (um_same (M := M13) (a := ml1) (o := .lst [])) hm1) hms
  have hwl16 := s16 _ _ hwl13
  have hna16 := s16 _ _ hna13
  have hfa16 := s16 _ _ hfa13
  have hpo16 := s16 _ _ hpo13
  have hm016 := s16 _ _ hm013
  have hml016 := s16 _ _ hml013
  generalize um (um (um M13 ml1 (.lst [])) m1 (.lst [.int (room1 : Nat), .ref ml1, .non])) ms (.lst [.ref m0, .ref m1]) = M16 at L16 d16 hms16 hm116 hml116 hwl16 hna16 hfa16 hpo16 hm016 hml016 ⊢
  clear s16 hml1 hm1 hms L13 d13
  (repeat decreasing_trivial_pre_omega)
  refine c_rare 37 M16 p 9 _ d16 (by decide) (by decide) fun il M17 d17 f17 => ?_
  have L17 := L16.fr d17 f17
  have n17 : ∀ x ∈ [ms, m1, ml1, m0, ml0], x ≠ p.1 := fun x hx z => by
    have nd := L17.nd
    rw [z] at hx
    simp only [List.nodup_cons, List.mem_cons, List.not_mem_nil, or_false, not_or] at nd hx
    obtain ⟨a1, a2, a3, a4, a5, _⟩ := nd
    rcases hx with h | h | h | h | h
    · exact a1.2.2.2.2.2.2.2.2 h.symm
    · exact a2.2.2.2.2.2.2.2 h.symm
    · exact a3.2.2.2.2.2.2 h.symm
    · exact a4.2.2.2.2.2 h.symm
    · exact a5.2.2.2.2 h.symm
  have hwl17 := f17.at_ wn hwl16
  have hna17 := f17.at_ nn hna16
  have hfa17 := f17.at_ fn hfa16
  have hpo17 := f17.at_ pn hpo16
  have hms17 := f17.at_ (n17 ms (by simp)) hms16
  have hm117 := f17.at_ (n17 m1 (by simp)) hm116
  have hml117 := f17.at_ (n17 ml1 (by simp)) hml116
  have hm017 := f17.at_ (n17 m0 (by simp)) hm016
  have hml017 := f17.at_ (n17 ml0 (by simp)) hml016
  (repeat ((fail_if_success (with_reducible refine Pl.z_ifs ?_)); decreasing_trivial_pre_omega))
  refine z_cutR fun R eR => ?_
  have key : ∀ (m1 ml1 : Addr) (room1 : Nat) (M : Hm), Liv M [m1, ml1, ms, m0, ml0, wl, po, fa, p.2, p.1] → Dr M p → 1 ≤ room1 → room1 ≤ 100 → M ms = some (.lst [.ref m0, .ref m1]) → M m0 = some (.lst [.int (room0 : Nat), .ref ml0, .non]) → M ml0 = some (.lst []) → M m1 = some (.lst [.int (room1 : Nat), .ref ml1, .non]) → M ml1 = some (.lst []) → M wl = some (.lst (W.map U.str)) → M na = some (.lst (nl.map U.str)) → M fa = some (.lst (fl.map U.str)) → M po = some (.lst (pool.map papU)) →
      R [some (.rol (ns.map U.int)), some (.ref p.1), some (.ref na), some (.ref fa), some (.ref po), some (.ref wl), some (.ref ms), some (.bl il), none, none, none, none, none, none, none, none] M := by
    rw [eR]
    intro m1 ml1 room1 M L d r1 r2 k1 k2 k3 k4 k5 k6 k7 k8 k9
    (repeat decreasing_trivial_pre_omega)
    intro a0 ha0
    refine c_cinit 38 _ a0 room0 _ um_same fun M2 pl0 hpl0 f2 c2 => ⟨rfl, ?_⟩
    have s2 : Sub M M2 := fun b o e => f2 b (ne_of_old e ha0) o (um_old e ha0)
    have L2 : Liv M2 (pl0 :: a0 :: [m1, ml1, ms, m0, ml0, wl, po, fa, p.2, p.1]) := by
      have h1 := L.new (o := .obj "Cache" []) ha0
      refine ⟨List.nodup_cons.mpr ⟨(fun hx => h1.ne hpl0 hx rfl), h1.nd⟩, fun x hx => ?_⟩
      rcases List.mem_cons.mp hx with rfl | hx
      · exact ⟨_, c2.ps⟩
      · rcases List.mem_cons.mp hx with rfl | hx
        · exact ⟨_, c2.ob⟩
        · obtain ⟨o, e⟩ := L.has x hx; exact ⟨o, s2 _ _ e⟩
    have d2 := d.sub s2
    have k12 := s2 _ _ k1
    have k42 := s2 _ _ k4
    (repeat decreasing_trivial_pre_omega)
    intro a1 ha1
    refine c_cinit 38 _ a1 room1 _ um_same fun M3 pl1 hpl1 f3 c3 => ⟨rfl, ?_⟩
    have s3 : Sub M2 M3 := fun b o e => f3 b (ne_of_old e ha1) o (um_old e ha1)
    have L3 : Liv M3 (pl1 :: a1 :: pl0 :: a0 :: [m1, ml1, ms, m0, ml0, wl, po, fa, p.2, p.1]) := by
      have h1 := L2.new (o := .obj "Cache" []) ha1
      refine ⟨List.nodup_cons.mpr ⟨(fun hx => h1.ne hpl1 hx rfl), h1.nd⟩, fun x hx => ?_⟩
      rcases List.mem_cons.mp hx with rfl | hx
      · exact ⟨_, c3.ps⟩
      · rcases List.mem_cons.mp hx with rfl | hx
        · exact ⟨_, c3.ob⟩
        · obtain ⟨o, e⟩ := L2.has x hx; exact ⟨o, s3 _ _ e⟩
    have c23 : CaAt M3 a0 pl0 room0 [] none := ⟨s3 _ _ c2.ob, s3 _ _ c2.ps⟩
    have d3 := d2.sub s3
    have s13 := s2.trans s3
    (repeat decreasing_trivial_pre_omega)
    intro cs hcs
    have L4 := L3.new (o := .lst [.ref a0, .ref a1]) hcs
    have s4 : Sub M3 (um M3 cs (.lst [.ref a0, .ref a1])) := sub_new (Sub.refl _) hcs
    have s14 := s13.trans s4
    have w : Wd (um M3 cs (.lst [.ref a0, .ref a1])) p po wl ms cs pool W ⟨a0, pl0, m0, ml0, room0, [], none⟩ ⟨a1, pl1, m1, ml1, room1, [], none⟩ := by
      have nd := L4.nd
      have nd14 : ([p.1, p.2, po, wl, ms, cs] ++ [a0, pl0, m0, ml0] ++ [a1, pl1, m1, ml1]).Nodup := by
        simp only [List.cons_append, List.nil_append, List.nodup_cons, List.mem_cons, List.not_mem_nil, or_false, not_or, List.nodup_nil, not_false_eq_true, and_true] at nd ⊢
        obtain ⟨⟨_, _, _, _, _, _, _, _, _, _, _, _, _, _⟩, ⟨_, _, _, _, _, _, _, _, _, _, _, _, _⟩, ⟨_, _, _, _, _, _, _, _, _, _, _, _⟩, ⟨_, _, _, _, _, _, _, _, _, _, _⟩, ⟨_, _, _, _, _, _, _, _, _, _⟩, ⟨_, _, _, _, _, _, _, _, _⟩, ⟨_, _, _, _, _, _, _, _⟩, ⟨_, _, _, _, _, _, _⟩, ⟨_, _, _, _, _, _⟩, ⟨_, _, _, _, _⟩, ⟨_, _, _, _⟩, ⟨_, _, _⟩, ⟨_, _⟩, _⟩ := nd
        repeat' apply And.intro
        all_goals first | assumption | (exact Ne.symm (by assumption))
      have pr := List.nodup_append.mp nd14
      have q1 : ([a1, pl1, m1, ml1] : List Addr).Nodup := pr.2.1
      have q0 : ([a0, pl0, m0, ml0] : List Addr).Nodup := (List.nodup_append.mp pr.1).2.1
      exact ⟨d3.sub s4, s14 _ _ k9, s14 _ _ k6, s14 _ _ k1, um_same, ⟨⟨s4 _ _ c23.ob, s4 _ _ c23.ps⟩, ⟨s14 _ _ k2, s14 _ _ k3⟩⟩, ⟨⟨s4 _ _ c3.ob, s4 _ _ c3.ps⟩, ⟨s14 _ _ k4, s14 _ _ k5⟩⟩, ⟨List.nodup_nil, (fun q h => nomatch h), (fun T h => nomatch h), Nat.zero_le _, hr0', q0⟩, ⟨List.nodup_nil, (fun q h => nomatch h), (fun T h => nomatch h), Nat.zero_le _, r2, q1⟩, hr0, r1, nd14⟩
    have k74 := s14 _ _ k7
    have k84 := s14 _ _ k8
    have fat : fa ∉ ([a1, pl1, m1, ml1] : List Addr) := by
      have nd := L4.nd
      simp only [List.nodup_cons, List.mem_cons, List.not_mem_nil, or_false, not_or] at nd ⊢
      obtain ⟨_, ⟨_, _, _, _, _, _, _, _, _, _, z1, _⟩, ⟨_, _, _, _, _, _, _, _, _, z2, _⟩, _, _, ⟨_, _, _, _, _, _, z3, _⟩, ⟨_, _, _, _, _, z4, _⟩, _⟩ := nd
      exact ⟨Ne.symm z2, Ne.symm z1, Ne.symm z3, Ne.symm z4⟩
    generalize um M3 cs (.lst [.ref a0, .ref a1]) = M4 at w k74 k84 ⊢
    have wms := w.hms
    have wcs := w.hcs
    cases il with
    | false =>
      (repeat decreasing_trivial_pre_omega)
      exact tail w hpl hpk hWl hWo
    | true =>
      (repeat decreasing_trivial_pre_omega)
      refine x_lst k74 (v := .str nl[0]) (by rw [show (0 : Int) = ((0 : Nat) : Int) from rfl, Pl.atI_nat (by rw [List.length_map]; omega), List.getElem_map]) ?_
      (repeat decreasing_trivial_pre_omega)
      refine c_fil 30 M4 fa fl ⟨a1, pl1, m1, ml1, room1, [], none⟩ nl[0] _ k84 (by omega) hfo fat (hno _ (List.getElem_mem (by omega))) w.t1 w.to_ r1 fun M5 t' g1 g2 g3 g4 => ?_
      (repeat decreasing_trivial_pre_omega)
      exact tail (w.up1 g4 g1 g2 g3) hpl hpk hWl hWo
  (repeat decreasing_trivial_pre_omega)
  cases il with
  | false =>
    (repeat decreasing_trivial_pre_omega)
    exact key m1 ml1 room1 M17 ⟨(List.Perm.nodup_iff (List.perm_middle (l₁ := [m1, ml1]))).mpr L17.nd, fun x hx => L17.has x ((List.perm_middle (l₁ := [m1, ml1])).mem_iff.mp hx)⟩ d17 hr1 hr1' hms17 hm017 hml017 hm117 hml117 hwl17 hna17 hfa17 hpo17
  | true =>
    (repeat decreasing_trivial_pre_omega)
    refine (c_draw 38).lt M17 p 3 _ d17 (by decide) (by decide) fun k2 M18 hk2 d18 f18 => ?_
    have L18 := L17.fr d18 f18
    obtain ⟨room2, er2, hr2, hr2'⟩ : ∃ n : Nat, (58 : Int) + (k2 : Nat) = (n : Nat) ∧ 1 ≤ n ∧ n ≤ 100 := ⟨58 + k2, by omega, by omega, by omega⟩
    (repeat decreasing_trivial_pre_omega)
    rw [er2]
    intro ml2 hml2
    (repeat decreasing_trivial_pre_omega)
    intro m2 hm2
    have L20 := (L18.new (o := .lst []) hml2).new (o := .lst [.int (room2 : Nat), .ref ml2, .non]) hm2
    have s20 : Sub M18 (um (um M18 ml2 (.lst [])) m2 (.lst [.int (room2 : Nat), .ref ml2, .non])) := sub_new (o := .lst [.int (room2 : Nat), .ref ml2, .non]) (sub_new (o := .lst []) (Sub.refl M18) hml2) hm2
    have d20 := d18.sub s20
    have g1 := s20 _ _ (f18.at_ (n17 ms (by simp)) hms17)
    have g2 := s20 _ _ (f18.at_ (n17 m0 (by simp)) hm017)
    have g3 := s20 _ _ (f18.at_ (n17 ml0 (by simp)) hml017)
    have g4 := um_same (M := um M18 ml2 (.lst [])) (a := m2) (o := .lst [.int (room2 : Nat), .ref ml2, .non])
    have g5 := um_old (o := .lst [.int (room2 : Nat), .ref ml2, .non]) (um_same (M := M18) (a := ml2) (o := .lst [])) hm2
    have g6 := s20 _ _ (f18.at_ wn hwl17)
    have g7 := s20 _ _ (f18.at_ nn hna17)
    have g8 := s20 _ _ (f18.at_ fn hfa17)
    have g9 := s20 _ _ (f18.at_ pn hpo17)
    generalize um (um M18 ml2 (.lst [])) m2 (.lst [.int (room2 : Nat), .ref ml2, .non]) = M20 at *
    have ndn := L20.nd
    have L21 : Liv M20 [m2, ml2, ms, m0, ml0, wl, po, fa, p.2, p.1] := L20.sl (.cons₂ _ (.cons₂ _ (.cons₂ _ (.cons _ (.cons _ (List.Sublist.refl _))))))
    clear L20 ndn
    have ms1 : ms ≠ p.1 := n17 ms (by simp)
    have q := L21.nd
    have ms2 : ms ≠ p.2 := fun z => by rw [z] at q; simp at q
    have e0 : ∀ x, x ∈ ([m0, ml0, wl, po, fa, p.2, p.1] : List Addr) → x ≠ ms := fun x hx z => by
      have := (List.nodup_cons.mp (List.nodup_cons.mp (List.nodup_cons.mp q).2).2).1
      exact this (by rw [← z]; exact hx)
    have e2 : m2 ≠ ms := fun z => by rw [z] at q; simp at q
    have e3 : ml2 ≠ ms := fun z => by rw [z] at q; simp at q
    have ena : na ≠ ms := fun z => by
      rw [z, g1] at g7
      have g7 := Option.some.inj g7
      injection g7 with g7
      cases nl with
      | nil => cases g7
      | cons x l => simp at g7
    (repeat decreasing_trivial_pre_omega)
    refine key m2 ml2 room2 _ ⟨q, fun x hx => ?_⟩ (d20.upd2 ms1 ms2) hr2 hr2' um_same (um_oth (e0 _ (by simp)) g2) (um_oth (e0 _ (by simp)) g3) (um_oth e2 g4) (um_oth e3 g5) (um_oth (e0 _ (by simp)) g6) (um_oth ena g7) (um_oth (e0 _ (by simp)) g8) (um_oth (e0 _ (by simp)) g9)
    by_cases hz : x = ms
    · subst hz; exact ⟨_, um_same⟩
    · obtain ⟨o, e⟩ := L21.has x hx
      exact ⟨o, um_oth hz e⟩
end K71

open PySem PySem.W PySem.Calls PyProof.Rows
theorem PySem.Challenge.cw_holdstill_k71_caches_kept_holds : PySem.Challenge.rw_holdstill_k71_caches_kept.Holds := by
  w_on; o_law
  refine HandSHeadRun.head_any (r := OpenLaw.row PySem.Challenge.rw_holdstill_k71_caches_kept) (q := view (OpenLaw.row PySem.Challenge.rw_holdstill_k71_caches_kept).prog [33]) (H := K71.hk) (ob := K71.ob) (M := 4000) (loose := K71.loose) (d := HandSHeadRun.topDef (OpenLaw.row PySem.Challenge.rw_holdstill_k71_caches_kept).prog 33) (kwd := []) K71.ob_eq
    (by kernel_rfl) (fun s => by kernel_rfl) K71.run (by kernel_rfl) (by kernel_rfl) (by kernel_rfl) (by rfl) (by first | assumption | decide +kernel) (by decide +kernel) ⟨rfl, rfl, rfl, rfl, rfl, by decide +kernel⟩ ?hw ?hc
  case hw => w_witness2
  case hc =>
    refine L2.walk_ofE (l := PySem.Challenge.rw_holdstill_k71_caches_kept) (n := 63) (k := 2 * K71.depth) (x := "script") (CX := L2.CX0) rfl (by decide) (by kernel_rfl) ⟨rfl, by decide, by decide⟩ ?F (fun _ _ _ _ z => z)
    intro w mg fa h Y G hmg0
    obtain ⟨K, KX, c⟩ := Y
    have hmg : mg ("law" : PySem.Str) = some (.ref fa) := by
      have e : (HandSHeadRun.topDef (OpenLaw.row PySem.Challenge.rw_holdstill_k71_caches_kept).prog 33).name = ("law" : PySem.Str) := by kernel_rfl
      rw [← e]
      exact hmg0
    obtain ⟨fd, sp, hb, hs, hF⟩ := Pl.law_ok (P := (PySem.Challenge.rw_holdstill_k71_caches_kept).prog) (wd := w) (n := 42) (k := K71.depth) (dl := K71.d42) K71.ck K71.bd rfl rfl rfl rfl KX G hmg c K71.law_true
    exact ⟨K, fd, sp, KX, hb, hs, hF⟩

