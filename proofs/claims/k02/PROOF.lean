import PyProof.Rows.All
import Wide.All
import OpenK.AllK
import Wide.FinOn
import HandS.ForMost
import HandS.Conv
import HandS.IsInst
import HandS.Style
import HandS.TupAny
import HandS.TupLe
import HandS.Deep
import HandS.SetKeys
import HandS.NoneIn
import HandS.Property
import HandS.Rev
import HandS.HeadHook1
import KE.KeyNested
import PyProof.DictRoadsH
import KE.SortData
import KE.SortLaws
import KE.KDictCopyH
import HandS.TupLen
import PyProof.DictMoreH
import HandS.Text
import HandS.Set
import HandS.SetFor
import HandS.SetTxt0
import HandS.Strs
import HandS.DictTup
import PyProof.AutoSeq1
import HandS.More
import HandS.Flow
import KE.GoesEnum
import KE.GoesNew
import HandS.Zip
import HandS.Iter
import HandS.DictComp
import KE.KDictDisplayH
import HandS.Dict
import HandS.Exc
import HandS.ExcOwn
import HandS.ExcInit
import HandS.ExcSuper
import HandS.FStr
import KE.KExcSuper
import KE.KSuper
import HandS.TryMany
import HandS.ExcField
import HandS.ExcIs
import KE.KExcIs
import HandS.Head0
import HandS.Head1
import HandS.Head2
import HandS.HeadEnd
import HandS.HeadHook2
import HandS.Defaults
import PySem.Challenge.RW_holdstill_k02_worlds_and_bodies
set_option Elab.async false
set_option linter.all false
set_option maxRecDepth 100000
set_option maxHeartbeats 4000000
/-! Pl: pure values over the abstract heap, a small syntax, what it asks. -/
namespace Pl
open PySem L2

abbrev Fg := PySem.W.Frag

/-- pure values: tuples are values; ref: something that can change; rol: a list that is only read; dtp: a tuple that is known to have no dict -/
inductive U where
  | non | bl (b : Bool) | int (i : Int) | str (x : Str) | tup (l : List U) | ref (a : Addr) | rol (l : List U) | dtp (l : List U)

mutual
def U.dec : (x y : U) → Decidable (x = y)
  | .non, .non => .isTrue rfl
  | .bl a, .bl b => if h : a = b then .isTrue (by rw [h]) else .isFalse (fun e => h (by injection e))
  | .int a, .int b => if h : a = b then .isTrue (by rw [h]) else .isFalse (fun e => h (by injection e))
  | .str a, .str b => if h : a = b then .isTrue (by rw [h]) else .isFalse (fun e => h (by injection e))
  | .ref a, .ref b => if h : a = b then .isTrue (by rw [h]) else .isFalse (fun e => h (by injection e))
  | .tup a, .tup b => match U.decL a b with
    | .isTrue h => .isTrue (by rw [h])
    | .isFalse h => .isFalse (fun e => h (by injection e))
  | .rol a, .rol b => match U.decL a b with
    | .isTrue h => .isTrue (by rw [h])
    | .isFalse h => .isFalse (fun e => h (by injection e))
  | .non, .bl _ => .isFalse (fun e => nomatch e)
  | .non, .int _ => .isFalse (fun e => nomatch e)
  | .non, .str _ => .isFalse (fun e => nomatch e)
  | .non, .tup _ => .isFalse (fun e => nomatch e)
  | .non, .ref _ => .isFalse (fun e => nomatch e)
  | .non, .rol _ => .isFalse (fun e => nomatch e)
  | .bl _, .non => .isFalse (fun e => nomatch e)
  | .bl _, .int _ => .isFalse (fun e => nomatch e)
  | .bl _, .str _ => .isFalse (fun e => nomatch e)
  | .bl _, .tup _ => .isFalse (fun e => nomatch e)
  | .bl _, .ref _ => .isFalse (fun e => nomatch e)
  | .bl _, .rol _ => .isFalse (fun e => nomatch e)
  | .int _, .non => .isFalse (fun e => nomatch e)
  | .int _, .bl _ => .isFalse (fun e => nomatch e)
  | .int _, .str _ => .isFalse (fun e => nomatch e)
  | .int _, .tup _ => .isFalse (fun e => nomatch e)
  | .int _, .ref _ => .isFalse (fun e => nomatch e)
  | .int _, .rol _ => .isFalse (fun e => nomatch e)
  | .str _, .non => .isFalse (fun e => nomatch e)
  | .str _, .bl _ => .isFalse (fun e => nomatch e)
  | .str _, .int _ => .isFalse (fun e => nomatch e)
  | .str _, .tup _ => .isFalse (fun e => nomatch e)
  | .str _, .ref _ => .isFalse (fun e => nomatch e)
  | .str _, .rol _ => .isFalse (fun e => nomatch e)
  | .tup _, .non => .isFalse (fun e => nomatch e)
  | .tup _, .bl _ => .isFalse (fun e => nomatch e)
  | .tup _, .int _ => .isFalse (fun e => nomatch e)
  | .tup _, .str _ => .isFalse (fun e => nomatch e)
  | .tup _, .ref _ => .isFalse (fun e => nomatch e)
  | .tup _, .rol _ => .isFalse (fun e => nomatch e)
  | .ref _, .non => .isFalse (fun e => nomatch e)
  | .ref _, .bl _ => .isFalse (fun e => nomatch e)
  | .ref _, .int _ => .isFalse (fun e => nomatch e)
  | .ref _, .str _ => .isFalse (fun e => nomatch e)
  | .ref _, .tup _ => .isFalse (fun e => nomatch e)
  | .ref _, .rol _ => .isFalse (fun e => nomatch e)
  | .rol _, .non => .isFalse (fun e => nomatch e)
  | .rol _, .bl _ => .isFalse (fun e => nomatch e)
  | .rol _, .int _ => .isFalse (fun e => nomatch e)
  | .rol _, .str _ => .isFalse (fun e => nomatch e)
  | .rol _, .tup _ => .isFalse (fun e => nomatch e)
  | .rol _, .ref _ => .isFalse (fun e => nomatch e)
  | .dtp _, .non => .isFalse (fun e => nomatch e)
  | .non, .dtp _ => .isFalse (fun e => nomatch e)
  | .dtp _, .bl _ => .isFalse (fun e => nomatch e)
  | .bl _, .dtp _ => .isFalse (fun e => nomatch e)
  | .dtp _, .int _ => .isFalse (fun e => nomatch e)
  | .int _, .dtp _ => .isFalse (fun e => nomatch e)
  | .dtp _, .str _ => .isFalse (fun e => nomatch e)
  | .str _, .dtp _ => .isFalse (fun e => nomatch e)
  | .dtp _, .tup _ => .isFalse (fun e => nomatch e)
  | .tup _, .dtp _ => .isFalse (fun e => nomatch e)
  | .dtp _, .ref _ => .isFalse (fun e => nomatch e)
  | .ref _, .dtp _ => .isFalse (fun e => nomatch e)
  | .dtp _, .rol _ => .isFalse (fun e => nomatch e)
  | .rol _, .dtp _ => .isFalse (fun e => nomatch e)
  | .dtp a, .dtp b => match U.decL a b with
    | .isTrue h => .isTrue (by rw [h])
    | .isFalse h => .isFalse (fun e => h (by injection e))
def U.decL : (x y : List U) → Decidable (x = y)
  | [], [] => .isTrue rfl
  | [], _ :: _ => .isFalse (fun e => nomatch e)
  | _ :: _, [] => .isFalse (fun e => nomatch e)
  | a :: x, b :: y => match U.dec a b with
    | .isFalse h => .isFalse (fun e => h (by injection e))
    | .isTrue h => match U.decL x y with
      | .isFalse k => .isFalse (fun e => k (by injection e))
      | .isTrue k => .isTrue (by rw [h, k])
end
instance : DecidableEq U := U.dec

/-- what may change -/
inductive MO where
  | lst (us : List U)
  /-- z: walked at the moment; t: its keys are tuples -/
  | dct (z t : Bool) (ks : List (U × U))
  /-- its keys are tuples, within one another -/
  | dcn (ks : List (U × U))
  /-- an instance: its class's name, its attributes -/
  | obj (c : Str) (fs : List (Str × U))
  /-- the fields of an error -/
  | exd (fs : List (Str × U))
abbrev Hm := Addr → Option MO
/-! ### where all began: what is kept since then -/
/-- what is not among M's things stays as it is; so does what is walked -/
structure Stp (H : Hp) (M : Hm) (H' : Hp) (M' : Hm) : Prop where
  keep : ∀ a o, H a = some o → M a = none → H' a = some o ∧ M' a = none
  lock : ∀ a t ks, M a = some (.dct true t ks) → H' a = H a ∧ (M' a = M a ∨ M' a = none)
theorem Stp.refl (H : Hp) (M : Hm) : Stp H M H M := ⟨fun _ _ h n => ⟨h, n⟩, fun _ _ _ _ => ⟨rfl, .inl rfl⟩⟩
theorem Stp.trans0 {H H1 H2 : Hp} {M M1 M2 : Hm} (S : ∀ a o, M a = some o → ∃ x, H a = some x) (a : Stp H M H1 M1) (b : Stp H1 M1 H2 M2) : Stp H M H2 M2 :=
  ⟨fun x o h n => let ⟨h1, n1⟩ := a.keep x o h n; b.keep x o h1 n1, fun x t ks e => by
    obtain ⟨e1, e2⟩ := a.lock x t ks e
    rcases e2 with e2 | e2
    · obtain ⟨f1, f2⟩ := b.lock x t ks (by rw [e2]; exact e)
      exact ⟨f1.trans e1, by rw [← e2]; exact f2⟩
    · obtain ⟨o, ho⟩ := S x _ e
      obtain ⟨f1, f2⟩ := b.keep x o (by rw [e1]; exact ho) e2
      exact ⟨by rw [f1, ho], .inr f2⟩⟩
structure Anc where
  H0 : Hp
  M0 : Hm
  has : ∀ a o, M0 a = some o → ∃ x, H0 a = some x
/-- what is written, the world that hashes, where all began -/
abbrev Kw := Fg × PySem.World × Anc
instance kwFg : CoeOut Kw Fg := ⟨Prod.fst⟩
/-- the context, and where its def began -/
structure Cy extends L2.Cx where
  z : Anc
instance cyCx : Coe Cy L2.Cx := ⟨Cy.toCx⟩
abbrev kwX (X : Cy) : Kw := (X.K, X.w, X.z)
/-! ### values and the heap -/
/-- a tuple of numbers that the module holds -/
def KTp (K : Kw) (a : Addr) (vs : List V) : Prop := (∃ i r, vs = V.int i :: r) ∧ ∃ (o : Obj) (its : Array Value) (n : Nat), K.1.lookup a = some o ∧ o.cls = .type "tuple" ∧ o.data = .seq its n ∧ its.size ≤ sizeLine ∧ Vals vs its.toList
/-- a tuple that was laid, or that the module holds -/
def Tp (K : Kw) (H : Hp) (a : Addr) (vs : List V) : Prop :=
  H a = some (.tup vs) ∨ KTp K a vs
theorem Tp.sq {K : Kw} {H : Hp} {a : Addr} {vs : List V} (h : Tp K H a vs) : SqT K H a vs := h.elim (fun h => .inl (.inl h)) fun h => .inr h.2
/-- a list that is never written -/
def Rl (K : Kw) (H : Hp) (a : Addr) (vs : List V) : Prop :=
  (∃ o, H a = some (.frz o (.lst vs))) ∨ ∃ (o : Obj) (its : Array Value) (n : Nat), K.1.lookup a = some o ∧ o.cls = .type "list" ∧ o.dict = none ∧ o.data = .seq its n ∧ its.size ≤ sizeLine ∧ Vals vs its.toList
theorem Rl.sq {K : Kw} {H : Hp} {a : Addr} {vs : List V} (h : Rl K H a vs) : SqL K H a vs := h.elim (fun h => .inl (.inr h)) .inr

/-- a tuple that was laid and has no dict -/
def KTd (K : Kw) (a : Addr) (vs : List V) : Prop := ∃ (o : Obj) (its : Array Value) (n : Nat), (K.1.lookup a = some o ∧ o.cls = .type "tuple" ∧ o.data = .seq its n ∧ its.size ≤ sizeLine ∧ Vals vs its.toList) ∧ o.dict = none ∧ o.slots = #[]
def Td (K : Kw) (H : Hp) (a : Addr) (vs : List V) : Prop := (∃ o, H a = some (.frz o (.tup vs)) ∧ o.dict = none ∧ o.slots = #[]) ∨ KTd K a vs
theorem Td.sq {K : Kw} {H : Hp} {a : Addr} {vs : List V} (h : Td K H a vs) : SqT K H a vs := h.elim (fun h => .inl (.inr (h.elim fun o e => ⟨o, e.1⟩))) fun ⟨o, its, n, h, _⟩ => .inr ⟨o, its, n, h⟩
mutual
inductive Rel (K : Kw) (H : Hp) : V → U → Prop
  | non : Rel K H .non .non
  | bl (b : Bool) : Rel K H (.bl b) (.bl b)
  | int (i : Int) : Rel K H (.int i) (.int i)
  | str (x : Str) : Rel K H (.str x) (.str x)
  | tup {a : Addr} {vs : List V} {us : List U} : Tp K H a vs → RelL K H vs us → Rel K H (.ref a) (.tup us)
  | rol {a : Addr} {vs : List V} {us : List U} : Rl K H a vs → RelL K H vs us → Rel K H (.ref a) (.rol us)
  | ref (a : Addr) : Rel K H (.ref a) (.ref a)
  | dtp {a : Addr} {vs : List V} {us : List U} : Td K H a vs → RelL K H vs us → Rel K H (.ref a) (.dtp us)
inductive RelL (K : Kw) (H : Hp) : List V → List U → Prop
  | nil : RelL K H [] []
  | cons {v : V} {vs : List V} {u : U} {us : List U} : Rel K H v u → RelL K H vs us → RelL K H (v :: vs) (u :: us)
end

theorem rl_ints0 {K : Kw} {H : Hp} : ∀ l : List Int, RelL K H (l.map V.int) (l.map U.int)
  | [] => RelL.nil
  | i :: l => RelL.cons (Rel.int i) (rl_ints0 l)
def um (M : Hm) (a : Addr) (o : MO) : Hm := fun b => if b = a then some o else M b
theorem um_same {M : Hm} {a : Addr} {o : MO} : um M a o a = some o := if_pos rfl
theorem um_ne {M : Hm} {a b : Addr} {o : MO} (h : b ≠ a) : um M a o b = M b := if_neg h
theorem um_um {M : Hm} {a : Addr} {o o' : MO} : um (um M a o) a o' = um M a o' := by
  funext b; unfold um; split <;> rfl
def keyU : Key → U
  | .inl i => .int i
  | .inr x => .str x
theorem keyU_inj {a b : Key} (e : keyU a = keyU b) : a = b := by
  cases a <;> cases b <;> first | (injection e with e; rw [e]) | cases e
theorem keysU_inj : ∀ {a b : List Key}, a.map keyU = b.map keyU → a = b
  | [], [], _ => rfl
  | [], _ :: _, e => by cases e
  | _ :: _, [], e => by cases e
  | x :: xs, y :: ys, e => by
    rw [List.map_cons, List.map_cons] at e
    injection e with e1 e2
    rw [keyU_inj e1, keysU_inj e2]

/-! ### keys within keys -/
mutual
def nk : U → PySem.NestedKey
  | .non => .none
  | .int i => .num i
  | .str x => .text x
  | .tup l => .tup (nkL l)
  | _ => .none
def nkL : List U → List PySem.NestedKey
  | [] => []
  | x :: xs => nk x :: nkL xs
end
/-- plain data of this depth, no truth values -/
def U.okN : Nat → U → Bool
  | _, .non => true
  | _, .int _ => true
  | _, .str _ => true
  | n + 1, .tup l => l.all (U.okN n)
  | _, _ => false
def isKeyN : U → Bool
  | .tup l => (U.tup l).okN 7
  | _ => false
abbrev NEnt := PySem.NestedKey × Addr × PySem.Value
def entN (w : PySem.World) (x : NEnt) : DictEntry := { hash := PySem.NestedKey.hash w x.1, key := .ref x.2.1, val := x.2.2 }
def dcnP (w : PySem.World) (a : Addr) (xs : List NEnt) : Heap → Prop := fun h => ∃ o es ep, h.get? a = some o ∧ o.ExactDict ∧ o.data = Data.dict es ep ∧ es.toList = xs.map (entN w) ∧ (xs.map (·.1)).Nodup
def RelN (K : Kw) (H : Hp) : List NEnt → List (U × U) → Prop := Paired fun q p => (isKeyN p.1 = true ∧ q.1 = nk p.1 ∧ Rel K H (.ref q.2.1) p.1) ∧ ∃ v, RelV v q.2.2 ∧ Rel K H v p.2
/-- two rows of entries -/
def RelK (K : Kw) (H : Hp) : List (Key × V) → List (U × U) → Prop := Paired fun p q => q.1 = keyU p.1 ∧ Rel K H p.2 q.2
def RelT (K : Kw) (H : Hp) : List (List Key × V) → List (U × U) → Prop := Paired fun p q => q.1 = .tup (p.1.map keyU) ∧ Rel K H p.2 q.2
def RelF (K : Kw) (H : Hp) : List (Str × V) → List (Str × U) → Prop := Paired fun p q => p.1 = q.1 ∧ Rel K H p.2 q.2
/-- where a class lies -/
def cad (K : Fg) (c : Str) : Addr := He.ga K c
def fz (z : Bool) (o : Option HO) (u : HO) : Prop := if z = true then ∃ ob, o = some (.frz ob u) else o = some u

def OR (K : Kw) (H : Hp) (a : Addr) : MO → Prop
  | .lst us => ∃ vs, H a = some (.lst vs) ∧ RelL K H vs us
  | .dct z false ks => ∃ kvs, fz z (H a) (.dK kvs) ∧ RelK K H kvs ks
  | .dct z true ks => ∃ kvs, fz z (H a) (.dT kvs) ∧ RelT K H kvs ks
  | .dcn ks => ∃ xs, H a = some (.ext (dcnP K.2.1 a xs)) ∧ RelN K H xs ks ∧ (a == sysModules) = false ∧ xs.length ≤ sizeLine
  | .obj c fs => ∃ dx vs, H a = some (.ins (cad K c) dx vs) ∧ RelF K H vs fs ∧ Cls K (cad K c) ∧ ∀ x ∈ vs, NoAttr K (cad K c) x.1
  | .exd fs => ∃ vs, H a = some (.xd vs) ∧ RelF K H vs fs
structure Sim (K : Kw) (H : Hp) (M : Hm) : Prop where
  all : ∀ a o, M a = some o → OR K H a o
  an : Stp K.2.2.H0 K.2.2.M0 H M
instance simFun {K : Kw} {H : Hp} {M : Hm} : CoeFun (Sim K H M) (fun _ => ∀ a o, M a = some o → OR K H a o) := ⟨Sim.all⟩
theorem fz_some {z : Bool} {o : Option HO} {u : HO} (h : fz z o u) : ∃ x, o = some x := by
  unfold fz at h
  cases z with
  | true => obtain ⟨_, e⟩ := (show ∃ ob, o = some (.frz ob u) from h); exact ⟨_, e⟩
  | false => exact ⟨_, h⟩
theorem OR.has {K : Kw} {H : Hp} {a : Addr} {o : MO} (h : OR K H a o) : ∃ x, H a = some x := by
  cases o with
  | lst us => obtain ⟨vs, e, _⟩ := h; exact ⟨_, e⟩
  | dct z t ks =>
    cases t with
    | false => obtain ⟨kvs, e, _⟩ := h; exact fz_some e
    | true => obtain ⟨kvs, e, _⟩ := h; exact fz_some e
  | dcn ks => obtain ⟨xs, e, _⟩ := h; exact ⟨_, e⟩
  | obj c fs => obtain ⟨dx, vs, e, _⟩ := h; exact ⟨_, e⟩
  | exd fs => obtain ⟨vs, e, _⟩ := h; exact ⟨_, e⟩
theorem Stp.trans {K : Kw} {H H1 H2 : Hp} {M M1 M2 : Hm} (S : Sim K H M) (a : Stp H M H1 M1) (b : Stp H1 M1 H2 M2) : Stp H M H2 M2 := Stp.trans0 (fun x o e => (S x o e).has) a b
theorem Sim.antr {K : Kw} {H H1 : Hp} {M M1 : Hm} (S : Sim K H M) (a : Stp H M H1 M1) : Stp K.2.2.H0 K.2.2.M0 H1 M1 := Stp.trans0 K.2.2.has S.an a
theorem Sim.fr {K : Kw} {H : Hp} {M : Hm} (S : Sim K H M) {a : Addr} (h : H a = none) : M a = none := by
  cases e : M a with
  | none => rfl
  | some o =>
    obtain ⟨x, q⟩ := (S a o e).has
    rw [h] at q
    cases q
theorem fz_tup {z : Bool} {o : Option HO} {u : HO} {vs : List V} (h : fz z o u) (hu : ∀ xs, u ≠ .tup xs) : o ≠ some (.tup vs) := fun e => by
  unfold fz at h
  cases z with
  | true =>
    obtain ⟨_, q⟩ := (show ∃ ob, o = some (.frz ob u) from h)
    rw [e] at q
    cases q
  | false =>
    have q : o = some u := h
    rw [e] at q
    cases q
    exact hu _ rfl
theorem fz_rol {z : Bool} {o : Option HO} {u : HO} {ob : Obj} {vs : List V} (h : fz z o u) (hu : ∀ xs, u ≠ .lst xs) (hf : ∀ o' x, u ≠ .frz o' x) : o ≠ some (.frz ob (.lst vs)) := fun e => by
  unfold fz at h
  cases z with
  | true =>
    obtain ⟨_, q⟩ := (show ∃ ob, o = some (.frz ob u) from h)
    rw [e] at q
    cases q
    exact hu _ rfl
  | false =>
    have q : o = some u := h
    rw [e] at q
    cases q
    exact hf _ _ rfl
theorem Sim.noTup {K : Kw} {H : Hp} {M : Hm} (S : Sim K H M) {a : Addr} {vs : List V} (h : H a = some (.tup vs)) : M a = none := by
  cases e : M a with
  | none => rfl
  | some o =>
    have q := S a o e
    cases o with
    | lst us =>
      obtain ⟨_, e2, _⟩ := q
      rw [h] at e2
      cases e2
    | dct z t ks =>
      cases t with
      | false => obtain ⟨kvs, e2, _⟩ := q; exact absurd h (fz_tup e2 fun _ x => nomatch x)
      | true => obtain ⟨kvs, e2, _⟩ := q; exact absurd h (fz_tup e2 fun _ x => nomatch x)
    | dcn ks =>
      obtain ⟨_, e2, _⟩ := q
      rw [h] at e2
      cases e2
    | obj c fs =>
      obtain ⟨_, _, e2, _⟩ := q
      rw [h] at e2
      cases e2
    | exd fs =>
      obtain ⟨_, e2, _⟩ := q
      rw [h] at e2
      cases e2
theorem Sim.noRol {K : Kw} {H : Hp} {M : Hm} (S : Sim K H M) {a : Addr} {ob : Obj} {vs : List V} (h : H a = some (.frz ob (.lst vs))) : M a = none := by
  cases e : M a with
  | none => rfl
  | some o =>
    have q := S a o e
    cases o with
    | lst us =>
      obtain ⟨_, e2, _⟩ := q
      rw [h] at e2
      cases e2
    | dct z t ks =>
      cases t with
      | false => obtain ⟨kvs, e2, _⟩ := q; exact absurd h (fz_rol e2 (fun _ x => nomatch x) fun _ _ x => nomatch x)
      | true => obtain ⟨kvs, e2, _⟩ := q; exact absurd h (fz_rol e2 (fun _ x => nomatch x) fun _ _ x => nomatch x)
    | dcn ks =>
      obtain ⟨_, e2, _⟩ := q
      rw [h] at e2
      cases e2
    | obj c fs =>
      obtain ⟨_, _, e2, _⟩ := q
      rw [h] at e2
      cases e2
    | exd fs =>
      obtain ⟨_, e2, _⟩ := q
      rw [h] at e2
      cases e2
theorem fz_td {z : Bool} {o : Option HO} {u : HO} {ob : Obj} {vs : List V} (h : fz z o u) (hu : ∀ xs, u ≠ .tup xs) (hf : ∀ o' x, u ≠ .frz o' x) : o ≠ some (.frz ob (.tup vs)) := fun e => by
  unfold fz at h
  cases z with
  | true =>
    obtain ⟨_, q⟩ := (show ∃ ob, o = some (.frz ob u) from h)
    rw [e] at q
    cases q
    exact hu _ rfl
  | false =>
    have q : o = some u := h
    rw [e] at q
    cases q
    exact hf _ _ rfl
theorem Sim.noTd {K : Kw} {H : Hp} {M : Hm} (S : Sim K H M) {a : Addr} {ob : Obj} {vs : List V} (h : H a = some (.frz ob (.tup vs))) : M a = none := by
  cases e : M a with
  | none => rfl
  | some o =>
    have q := S a o e
    cases o with
    | lst us =>
      obtain ⟨_, e2, _⟩ := q
      rw [h] at e2
      cases e2
    | dct z t ks =>
      cases t with
      | false => obtain ⟨kvs, e2, _⟩ := q; exact absurd h (fz_td e2 (fun _ x => nomatch x) fun _ _ x => nomatch x)
      | true => obtain ⟨kvs, e2, _⟩ := q; exact absurd h (fz_td e2 (fun _ x => nomatch x) fun _ _ x => nomatch x)
    | dcn ks =>
      obtain ⟨_, e2, _⟩ := q
      rw [h] at e2
      cases e2
    | obj c fs =>
      obtain ⟨_, _, e2, _⟩ := q
      rw [h] at e2
      cases e2
    | exd fs =>
      obtain ⟨_, e2, _⟩ := q
      rw [h] at e2
      cases e2
theorem Td.stp {K : Kw} {H H' : Hp} {M M' : Hm} (S : Sim K H M) (t : Stp H M H' M') {a : Addr} {vs : List V} (h : Td K H a vs) : Td K H' a vs := by
  rcases h with ⟨o, h, d⟩ | h
  · exact .inl ⟨o, (t.keep a _ h (S.noTd h)).1, d⟩
  · exact .inr h
theorem Tp.stp {K : Kw} {H H' : Hp} {M M' : Hm} (S : Sim K H M) (t : Stp H M H' M') {a : Addr} {vs : List V} (h : Tp K H a vs) : Tp K H' a vs := by
  rcases h with h | h
  · exact .inl (t.keep a _ h (S.noTup h)).1
  · exact .inr h
theorem Rl.stp {K : Kw} {H H' : Hp} {M M' : Hm} (S : Sim K H M) (t : Stp H M H' M') {a : Addr} {vs : List V} (h : Rl K H a vs) : Rl K H' a vs := by
  rcases h with ⟨o, h⟩ | h
  · exact .inl ⟨o, (t.keep a _ h (S.noRol h)).1⟩
  · exact .inr h
mutual
theorem Rel.stp {K : Kw} {H H' : Hp} {M M' : Hm} (S : Sim K H M) (t : Stp H M H' M') {v : V} {u : U} (h : Rel K H v u) : Rel K H' v u := by
  cases h with
  | non => exact .non
  | bl b => exact .bl b
  | int i => exact .int i
  | str x => exact .str x
  | tup h1 h2 => exact .tup (h1.stp S t) (h2.stp S t)
  | rol h1 h2 => exact .rol (h1.stp S t) (h2.stp S t)
  | ref a => exact .ref a
  | dtp h1 h2 => exact .dtp (h1.stp S t) (h2.stp S t)
theorem RelL.stp {K : Kw} {H H' : Hp} {M M' : Hm} (S : Sim K H M) (t : Stp H M H' M') {v : List V} {u : List U} (h : RelL K H v u) : RelL K H' v u := by
  cases h with
  | nil => exact .nil
  | cons h1 h2 => exact .cons (h1.stp S t) (h2.stp S t)
end
/-! seen from another beginning -/
mutual
theorem Rel.anc {k : Fg} {w : PySem.World} {z z' : Anc} {H : Hp} {v : V} {u : U} (h : Rel (k, w, z) H v u) : Rel (k, w, z') H v u := by
  cases h with
  | non => exact .non
  | bl b => exact .bl b
  | int i => exact .int i
  | str x => exact .str x
  | tup h1 h2 => exact .tup h1 h2.anc
  | rol h1 h2 => exact .rol h1 h2.anc
  | ref a => exact .ref a
  | dtp h1 h2 => exact .dtp h1 h2.anc
theorem RelL.anc {k : Fg} {w : PySem.World} {z z' : Anc} {H : Hp} {v : List V} {u : List U} (h : RelL (k, w, z) H v u) : RelL (k, w, z') H v u := by
  cases h with
  | nil => exact .nil
  | cons h1 h2 => exact .cons h1.anc h2.anc
end
theorem pairedR {α β : Type} {F G : α → β → Prop} {xs : List α} {ys : List β} (h : Paired F xs ys) (k : ∀ a b, F a b → G a b) : Paired G xs ys := by
  induction h with
  | nil => exact .nil
  | cons a _ ih => exact .cons (k _ _ a) ih
theorem OR.anc {k : Fg} {w : PySem.World} {z z' : Anc} {H : Hp} {a : Addr} {o : MO} (h : OR (k, w, z) H a o) : OR (k, w, z') H a o := by
  cases o with
  | lst us => obtain ⟨vs, q, r⟩ := h; exact ⟨vs, q, r.anc⟩
  | dct y t ks =>
    cases t with
    | false => obtain ⟨kvs, q, r⟩ := h; exact ⟨kvs, q, pairedR r fun p q x => ⟨x.1, x.2.anc⟩⟩
    | true => obtain ⟨kvs, q, r⟩ := h; exact ⟨kvs, q, pairedR r fun p q x => ⟨x.1, x.2.anc⟩⟩
  | dcn ks => obtain ⟨xs, q, r, r2⟩ := h; exact ⟨xs, q, pairedR r fun p q x => ⟨⟨x.1.1, x.1.2.1, x.1.2.2.anc⟩, x.2.elim fun v y => ⟨v, y.1, y.2.anc⟩⟩, r2⟩
  | obj c fs => obtain ⟨dx, vs, q, r, r2⟩ := h; exact ⟨dx, vs, q, pairedR r fun p q x => ⟨x.1, x.2.anc⟩, r2⟩
  | exd fs => obtain ⟨vs, q, r⟩ := h; exact ⟨vs, q, pairedR r fun p q x => ⟨x.1, x.2.anc⟩⟩
theorem Sim.anc {k : Fg} {w : PySem.World} {z z' : Anc} {H : Hp} {M : Hm} (h : Sim (k, w, z) H M) (a : Stp z'.H0 z'.M0 H M) : Sim (k, w, z') H M := ⟨fun p o e => (h p o e).anc, a⟩
/-- the beginning that a state is -/
def Sim.here {K : Kw} {H : Hp} {M : Hm} (S : Sim K H M) : Anc := ⟨H, M, fun a o e => (S a o e).has⟩
theorem Sim.now {k : Fg} {w : PySem.World} {z : Anc} {H : Hp} {M : Hm} (S : Sim (k, w, z) H M) : Sim (k, w, S.here) H M := S.anc (Stp.refl H M)
end Pl

set_option maxHeartbeats 4000000
/-! the syntax and what it asks -/
namespace Pl
open PySem L2

inductive Bop where | add | sub | mul | fdiv | mod | pow | shl | shr | band | bor
  deriving DecidableEq
inductive Cop where | eq | ne | lt | le | gt | ge | isin | notin | eqb | neb
  deriving DecidableEq
/-- built-in functions and classes that are called -/
inductive Bfn where | len | list | tuple | int | abs | max | min | sorted | sum | all | any | set | str | dict | bool | tupd
  deriving DecidableEq
/-- methods of built-in types -/
inductive Mfn where | append | extend | pop | popAt | split | get1 | get2 | setdefault | index | join | insert | remove | items | pop2 | isalpha | islower | replace
  deriving DecidableEq
/-- targets: one name, a flat tuple of names -/
inductive Tg where | one (i : Nat) | many (is : List Nat)
  deriving DecidableEq
def Tg.slots : Tg → List Nat
  | .one i => [i]
  | .many is => is

inductive E where
  | var (i : Nat) | int (i : Int) | str (x : Str) | bl (b : Bool) | non
  | nil | cons (a b : E)
  | tup (es : E) | lst (es : E) | dnew (t : Bool) | dnewN | dtup (es : E) | ddisp (es : E) | ddispN (a b : E)
  | bin (op : Bop) (a b : E) | neg (a : E)
  | cmp (op : Cop) (a b : E) | chain (o1 o2 : Cop) (a b c : E)
  | isN (a : E) | notN (a : E) | isB (neg b : Bool) (a : E)
  | ands (es : E) | ors (es : E) | not (a : E) | ite (c a b : E)
  | ix (a i : E) | dget (o k d : E) | dget1 (o k : E) | slice (a lo hi : E)
  | call (f : Nat) (es : E) | blt (f : Bfn) (es : E) | mth (m : Mfn) (o es : E) | isinst (a : E) (t : String)
  | comp (own : List (Str × Nat)) (tg : Tg) (it c elt : E) | comp2 (own : List (Str × Nat)) (tg : Tg) (it : E) (tg1 : Tg) (it1 c elt : E) | dcompN (own : List (Str × Nat)) (tg : Tg) (it c k v : E)
  | fld (f : Str) (o : E) | meth (c m : Str) (f : Nat) (o es : E) | make (c : Str) (f : Nat) (es : E) | prop (c m : Str) (f : Nat) (o : E)
  | setdef (o k d : E) | lrng (t : Bool) (a b : E) | tidx (o e : E) | gint (x : Str) (i : Int) | gstr (x s : Str) | gtup (x : Str) (is : List Int) | gdat (x : Str) (u : U) | dgetN (o k d : E) | sset (a : E)
  | callX (f : Nat) (es : E) | xfd (f : Str) (i : Nat) (cs : List Str) | isx (i : Nat) (yes no : List Str)
  | iStr (a : E) | iSeq (a : E) | iRange (a : E) | iRange2 (a b : E) | iEnum (a : E) | iKeys (a : E) | iRev (a : E) | iZip (a b : E)
  deriving DecidableEq

inductive S where
  | skip | seq (a b : S)
  | asg (i : Nat) (e : E) | asgT (is : List Nat) (e : E) | asgU (is : List Nat) (e : E) | par (i j : Nat) (a b : E)
  | setF (c f : Str) (o e : E)
  | setIx (o i e : E) | delIx (o i : E) | augV (i : Nat) (op : Bop) (e : E) | augIx (o i : E) (op : Bop) (e : E)
  | ifs (c : E) (a b : S) | for_ (tg : Tg) (it : E) (b : S) | whl (c : E) (b : S)
  | ret (e : E) | retN | brk | cnt | expr (e : E) | nvr
  | raise1 (c f : Str) (e : E) | raise0 (c : Str) | try_ (b h : S) | hdl (i : Option Nat) (yes no : List Str) (s r : S)
  deriving DecidableEq

abbrev SU := List (Option U)
abbrev QU := U → Hm → Prop
abbrev WE := SU → Hm → QU → Prop
abbrev WT := SU → Hm → (Bool → Hm → Prop) → Prop
abbrev WL := SU → Hm → (List U → Hm → Prop) → Prop
abbrev WO := SU → Hm → (Option Int → Hm → Prop) → Prop
/-- what is walked: its items, what must stay, how an exit is reached -/
abbrev WI := SU → Hm → (List U → (Hm → Prop) → ((Hm → Prop) → Hm → Prop) → Hm → Prop) → Prop

def LIM : Nat := 100000

/-! ### data -/
def okS (x : Str) : Bool := x.cps.all (· < 0x110000)
def U.ok : Nat → U → Bool
  | _, .non => true
  | _, .int _ => true
  | _, .str x => okS x
  | n + 1, .tup l => l.all (U.ok n)
  | _, _ => false
def okU (x : U) : Bool := x.ok 60
def okL (l : List U) : Bool := l.all (U.ok 59)

/-- data that may hold truth values -/
def U.okb : Nat → U → Bool
  | _, .non => true
  | _, .bl _ => true
  | _, .int _ => true
  | _, .str x => okS x
  | n + 1, .tup l => l.all (U.okb n)
  | _, _ => false
mutual
/-- no truth value against a number -/
def nomix : U → U → Bool
  | .bl _, .int _ => false
  | .int _, .bl _ => false
  | .tup l, .tup r => nomixL l r
  | _, _ => true
def nomixL : List U → List U → Bool
  | x :: xs, y :: ys => nomix x y && nomixL xs ys
  | _, _ => true
end
def okM (x y : U) : Bool := x.okb 60 && (y.okb 60 && nomix x y)
def eqbW (x y : U) (M : Hm) (Q : Bool → Hm → Prop) : Prop := okM x y = true ∧ Q (decide (x = y)) M
def eqW (x y : U) (M : Hm) (Q : Bool → Hm → Prop) : Prop := match x, y with
  | .bl a, .bl b => Q (a == b) M
  | .int a, .int b => Q (decide (a = b)) M
  | .str a, .str b => Q (decide (a = b)) M
  | .ref p, .ref q => ∃ us ws, M p = some (.lst us) ∧ M q = some (.lst ws) ∧ okL us = true ∧ okL ws = true ∧ Q (decide (us = ws)) M
  | .tup a, .dtp b => okU (.tup a) = true ∧ okU (.tup b) = true ∧ Q (decide (a = b)) M
  | x, y => okU x = true ∧ okU y = true ∧ Q (decide (x = y)) M

def dfind (ks : List (U × U)) (k : U) : Option U := (ks.find? fun p => decide (p.1 = k)).map (·.2)
/-- one entry taken out -/
def ddrop (ks : List (U × U)) (k : U) : List (U × U) := ks.filter fun p => !decide (p.1 = k)
def dput (ks : List (U × U)) (k v : U) : List (U × U) := if (dfind ks k).isSome = true then ks.map fun p => if p.1 = k then (p.1, v) else p else ks ++ [(k, v)]
/-- a key of ints and texts | of tuples of such -/
def isKey : U → Bool
  | .int _ => true
  | .str _ => true
  | _ => false
/-- its first part is a text: so it is no tuple that the module holds -/
def isKeyT : U → Bool
  | .tup (.str _ :: l) => l.all isKey
  | _ => false
def keyFor (t : Bool) (k : U) : Bool := match t with
  | true => isKeyT k
  | false => isKey k

def inW (neg : Bool) (x y : U) (M : Hm) (Q : Bool → Hm → Prop) : Prop := match y with
  | .tup l => okU x = true ∧ okL l = true ∧ Q (if neg then !decide (x ∈ l) else decide (x ∈ l)) M
  | .dtp l => (l.all isKey = true ∧ isKey x = true) ∧ Q (if neg then !decide (x ∈ l) else decide (x ∈ l)) M
  | .ref p => (∃ us, M p = some (.lst us) ∧ okU x = true ∧ okL us = true ∧ Q (if neg then !decide (x ∈ us) else decide (x ∈ us)) M) ∨
      (∃ z t ks, M p = some (.dct z t ks) ∧ keyFor t x = true ∧ Q (if neg then !(dfind ks x).isSome else (dfind ks x).isSome) M) ∨
      ∃ ks, M p = some (.dcn ks) ∧ isKeyN x = true ∧ Q (if neg then !(dfind ks x).isSome else (dfind ks x).isSome) M
  | .str z => ∃ c, x = .str ⟨#[c]⟩ ∧ Q (if neg then !decide (c ∈ z.cps.toList) else decide (c ∈ z.cps.toList)) M
  | _ => False

def cmpW (op : Cop) (x y : U) (M : Hm) (Q : Bool → Hm → Prop) : Prop := match op with
  | .eq => eqW x y M Q
  | .ne => eqW x y M fun b M => Q (!b) M
  | .lt => (match x, y with | .int i, .int j => Q (decide (i < j)) M | _, _ => False)
  | .le => (match x, y with | .int i, .int j => Q (decide (i ≤ j)) M | _, _ => False)
  | .gt => (match x, y with | .int i, .int j => Q (decide (j < i)) M | _, _ => False)
  | .ge => (match x, y with | .int i, .int j => Q (decide (j ≤ i)) M | _, _ => False)
  | .eqb => eqbW x y M Q
  | .neb => eqbW x y M fun b M => Q (!b) M
  | .isin => inW false x y M Q
  | .notin => inW true x y M Q

def binW (op : Bop) (x y : U) (M : Hm) (Q : QU) : Prop := match op, x, y with
  | .add, .int i, .int j => Q (.int (i + j)) M
  | .sub, .int i, .int j => Q (.int (i - j)) M
  | .mul, .int i, .int j => CMul i j ∧ Q (.int (i * j)) M
  | .fdiv, .int i, .int j => CDiv i j ∧ Q (.int (i / j)) M
  | .mod, .int i, .int j => 0 < j ∧ Q (.int (i % j)) M
  | .pow, .int i, .int j => CPow i j ∧ Q (.int (i ^ j.toNat)) M
  | .shl, .int i, .int j => CPow i j ∧ Q (.int (i * 2 ^ j.toNat)) M
  | .shr, .int i, .int j => 0 ≤ j ∧ Q (.int (i / 2 ^ j.toNat)) M
  | .band, .int i, .int j => Q (.int (Builtin.bitAnd i j)) M
  | .bor, .int i, .int j => Q (.int (Builtin.bitOr i j)) M
  | .add, .str a, .str b => a.length + b.length ≤ LIM ∧ Q (.str (a ++ b)) M
  | .add, .tup a, .tup b => a.length + b.length ≤ LIM ∧ Q (.tup (a ++ b)) M
  | .mul, .ref p, .int k => ∃ us, M p = some (.lst us) ∧ -LIM ≤ k ∧ k ≤ LIM ∧ us.length * k.toNat ≤ LIM ∧ ∀ a, M a = none → Q (.ref a) (um M a (.lst (List.replicate k.toNat us).flatten))
  | .add, .ref p, .ref q => ∃ us ws, M p = some (.lst us) ∧ M q = some (.lst ws) ∧ us.length + ws.length ≤ LIM ∧ ∀ a, M a = none → Q (.ref a) (um M a (.lst (us ++ ws)))
  | _, _, _ => False

def truW (x : U) (M : Hm) (Q : Bool → Hm → Prop) : Prop := match x with
  | .bl b => Q b M
  | .int i => Q (i != 0) M
  | .str s => s.length ≤ LIM ∧ Q (s.length != 0) M
  | .non => Q false M
  | .tup l => Q (!l.isEmpty) M
  | .ref p => (∃ us, M p = some (.lst us) ∧ Q (!us.isEmpty) M) ∨ ∃ ks, M p = some (.dct false false ks) ∧ Q (!ks.isEmpty) M
  | .rol _ => False
  | .dtp l => Q (!l.isEmpty) M

def ixW (x i : U) (M : Hm) (Q : QU) : Prop := match x with
  | .dtp l => ∃ j v, i = .int j ∧ atI l j = some v ∧ Q v M
  | .tup l => ∃ j v, i = .int j ∧ atI l j = some v ∧ Q v M
  | .ref p => (∃ us j v, M p = some (.lst us) ∧ i = .int j ∧ atI us j = some v ∧ Q v M) ∨ (∃ z t ks v, M p = some (.dct z t ks) ∧ keyFor t i = true ∧ dfind ks i = some v ∧ Q v M) ∨
      ∃ ks v, M p = some (.dcn ks) ∧ isKeyN i = true ∧ dfind ks i = some v ∧ Q v M
  | .str z => ∃ j c, i = .int j ∧ z.length ≤ LIM ∧ atI z.cps.toList j = some c ∧ Q (.str ⟨#[c]⟩) M
  | _ => False
/-- d.get(k, x) -/
def isDW (x : U) (M : Hm) : Prop := ∃ p z t ks, x = .ref p ∧ M p = some (.dct z t ks)
def dgetNW (x y v : U) (M : Hm) (Q : QU) : Prop := ∃ p ks, x = .ref p ∧ M p = some (.dcn ks) ∧ isKeyN y = true ∧ Q ((dfind ks y).getD v) M
def dgetW (x y v : U) (M : Hm) (Q : QU) : Prop := ∃ p z t ks, x = .ref p ∧ M p = some (.dct z t ks) ∧ keyFor t y = true ∧ Q ((dfind ks y).getD v) M
/-- d.setdefault(k, x) -/
def setdefW (x y v : U) (M : Hm) (Q : QU) : Prop := ∃ p ks, x = .ref p ∧ M p = some (.dct false false ks) ∧ isKey y = true ∧ ks.length < LIM ∧
  (match dfind ks y with
  | some u => Q u M
  | none => Q v (um M p (.dct false false (dput ks y v))))
/-- t.index(x) of a tuple of texts -/
def tidxW (x y : U) (M : Hm) (Q : QU) : Prop := ∃ (ys : List Str) (z : Str) (j : Nat), x = .dtp (ys.map U.str) ∧ y = .str z ∧ ys[j]? = some z ∧ (∀ m, m < j → ys[m]? ≠ some z) ∧ Q (.int (j : Nat)) M
/-- a field set -/
def fput (f : Str) (v : U) : List (Str × U) → List (Str × U)
  | [] => [(f, v)]
  | (g, x) :: r => if g = f then (g, v) :: r else (g, x) :: fput f v r
/-- what an augmented store reads -/
def getW (x i : U) (M : Hm) (Q : QU) : Prop := match x with
  | .ref p => (∃ us j v, M p = some (.lst us) ∧ i = .int j ∧ atI us j = some v ∧ Q v M) ∨ ∃ z t ks v, M p = some (.dct z t ks) ∧ keyFor t i = true ∧ dfind ks i = some v ∧ Q v M
  | _ => False
def cutU {α : Type} (xs : List α) (lo hi : Option Int) : List α := (xs.drop (HT.sIx xs.length 0 lo)).take (HT.sIx xs.length xs.length hi - HT.sIx xs.length 0 lo)
def sliceW (x : U) (lo hi : Option Int) (M : Hm) (Q : QU) : Prop := match x with
  | .tup l => Q (.tup (cutU l lo hi)) M
  | .ref p => ∃ us, M p = some (.lst us) ∧ ∀ a, M a = none → Q (.ref a) (um M a (.lst (cutU us lo hi)))
  | _ => False
def setW (x i v : U) (M : Hm) (Q : Hm → Prop) : Prop := match x with
  | .ref p => (∃ us j k, M p = some (.lst us) ∧ i = .int j ∧ ixN us.length j = some k ∧ Q (um M p (.lst (us.set k v)))) ∨
      (∃ t ks, M p = some (.dct false t ks) ∧ keyFor t i = true ∧ ks.length < LIM ∧ Q (um M p (.dct false t (dput ks i v)))) ∨
      ∃ ks, M p = some (.dcn ks) ∧ isKeyN i = true ∧ ks.length < LIM ∧ Q (um M p (.dcn (dput ks i v)))
  | _ => False

mutual
def pd : U → PyData
  | .non => .none
  | .bl b => .bool b
  | .int i => .int i
  | .str x => .str x
  | .tup l => .tuple (pdL l)
  | .ref _ => .none
  | .rol _ => .none
  | .dtp _ => .none
def pdL : List U → List PyData
  | [] => []
  | x :: xs => pd x :: pdL xs
end
theorem pdL_map : ∀ l : List U, pdL l = l.map pd
  | [] => rfl
  | x :: xs => by rw [pdL, pdL_map xs]; rfl
/-- what can be put in order -/
def sortOk (us : List U) : Prop := okL us = true ∧ W.AllAlike (us.map pd) ∧ W.Sortable (us.map pd) ∧ us.length ≤ LIM
def sortU (us : List U) : List U := us.mergeSort (W.dataLe false pd)
/-- sorted(set(t)) of texts: the different ones, in order -/
def ssetW (x : U) (M : Hm) (Q : QU) : Prop := ∃ xs : List Str, x = .tup (xs.map U.str) ∧ xs.length ≤ 1000 ∧ (∀ y ∈ xs, okS y = true) ∧ ∀ ks : List Str, ks.Nodup → (∀ y, y ∈ ks ↔ y ∈ xs) → ∀ q, M q = none → Q (.ref q) (um M q (.lst (sortU (ks.map U.str))))
def signs (s : Str) : List U := s.cps.toList.map fun c => U.str ⟨#[c]⟩
def bltW (f : Bfn) (xs : List U) (M : Hm) (Q : QU) : Prop := match f, xs with
  | .len, [.tup l] => Q (.int l.length) M
  | .len, [.str s] => s.length ≤ LIM ∧ Q (.int s.length) M
  | .len, [.ref p] => (∃ us, M p = some (.lst us) ∧ Q (.int us.length) M) ∨ ∃ ks, M p = some (.dct false false ks) ∧ Q (.int ks.length) M
  | .list, [.tup l] => ∀ a, M a = none → Q (.ref a) (um M a (.lst l))
  | .list, [.ref p] => (∃ us, M p = some (.lst us) ∧ ∀ a, M a = none → Q (.ref a) (um M a (.lst us))) ∨
      (∃ ks, M p = some (.dct false false ks) ∧ ∀ a, M a = none → Q (.ref a) (um M a (.lst (ks.map (·.1))))) ∨
      ∃ ks, M p = some (.dcn ks) ∧ ∀ a, M a = none → Q (.ref a) (um M a (.lst (ks.map (·.1))))
  | .tuple, [.tup l] => Q (.tup l) M
  | .tupd, [.ref p] => ∃ us, M p = some (.lst us) ∧ Q (.dtp us) M
  | .dict, [.ref p] => ∃ ks, M p = some (.dct false false ks) ∧ ∀ a, M a = none → Q (.ref a) (um M a (.dct false false ks))
  | .len, [.dtp l] => Q (.int l.length) M
  | .list, [.dtp l] => ∀ a, M a = none → Q (.ref a) (um M a (.lst l))
  | .tuple, [.dtp l] => Q (.dtp l) M
  | .tuple, [.ref p] => ∃ us, M p = some (.lst us) ∧ Q (.tup us) M
  | .int, [.int i] => Q (.int i) M
  | .int, [.bl b] => Q (.int (if b then 1 else 0)) M
  | .abs, [.int i] => Q (.int (if i < 0 then -i else i)) M
  | .max, [.int i, .int j] => Q (.int (if j > i then j else i)) M
  | .sorted, [.ref p] => (∃ us, M p = some (.lst us) ∧ sortOk us ∧ ∀ a, M a = none → Q (.ref a) (um M a (.lst (sortU us)))) ∨ (∃ t ks, M p = some (.dct false t ks) ∧ sortOk (ks.map (·.1)) ∧ ∀ a, M a = none → Q (.ref a) (um M a (.lst (sortU (ks.map (·.1)))))) ∨ ∃ ks, M p = some (.dcn ks) ∧ sortOk (ks.map (·.1)) ∧ ∀ a, M a = none → Q (.ref a) (um M a (.lst (sortU (ks.map (·.1)))))
  | .sum, [.ref p] => ∃ ns : List Int, M p = some (.lst (ns.map U.int)) ∧ Q (.int ns.sum) M
  | .all, [.ref p] => ∃ bs : List Bool, M p = some (.lst (bs.map U.bl)) ∧ Q (.bl (bs.all id)) M
  | .any, [.ref p] => ∃ bs : List Bool, M p = some (.lst (bs.map U.bl)) ∧ Q (.bl (bs.any id)) M
  | .max, [.ref p] => ∃ (ns : List Int), M p = some (.lst (ns.map U.int)) ∧ 0 < ns.length ∧ ∀ m, m ∈ ns → (∀ y, y ∈ ns → y ≤ m) → Q (.int m) M
  | .min, [.int i, .int j] => Q (.int (if j < i then j else i)) M
  | .min, [.ref p] => ∃ (ns : List Int), M p = some (.lst (ns.map U.int)) ∧ 0 < ns.length ∧ ∀ m, m ∈ ns → (∀ y, y ∈ ns → m ≤ y) → Q (.int m) M
  | _, _ => False

def mthW (m : Mfn) (o : U) (xs : List U) (M : Hm) (Q : QU) : Prop := match m, o, xs with
  | .append, .ref p, [x] => ∃ us, M p = some (.lst us) ∧ us.length < LIM ∧ Q .non (um M p (.lst (us ++ [x])))
  | .extend, .ref p, [.ref q] => ∃ us ws, M p = some (.lst us) ∧ M q = some (.lst ws) ∧ us.length + ws.length ≤ LIM ∧ Q .non (um M p (.lst (us ++ ws)))
  | .extend, .ref p, [.dtp l] => ∃ us, M p = some (.lst us) ∧ us.length + l.length ≤ LIM ∧ Q .non (um M p (.lst (us ++ l)))
  | .pop2, .ref p, [.tup l] => ∃ ks v, M p = some (.dct false true ks) ∧ isKeyT (.tup l) = true ∧ dfind ks (.tup l) = some v ∧ Q v (um M p (.dct false true (ddrop ks (.tup l))))
  | .pop2, .ref p, [.tup l, d] => ∃ ks, M p = some (.dct false true ks) ∧ isKeyT (.tup l) = true ∧ (match dfind ks (.tup l) with | some v => Q v (um M p (.dct false true (ddrop ks (.tup l)))) | none => Q d M)
  | .pop, .ref p, [] => ∃ us x, M p = some (.lst us) ∧ us[us.length - 1]? = some x ∧ Q x (um M p (.lst us.dropLast))
  | .popAt, .ref p, [.int i] => ∃ us k x, M p = some (.lst us) ∧ us.length ≤ LIM ∧ ixN us.length i = some k ∧ us[k]? = some x ∧ Q x (um M p (.lst (us.eraseIdx k)))
  | .index, .ref p, [x] => ∃ us j, M p = some (.lst us) ∧ okU x = true ∧ okL us = true ∧ us[j]? = some x ∧ (∀ m, m < j → us[m]? ≠ some x) ∧ Q (.int (j : Nat)) M
  | .split, .str a, [.str b] => (b.length == 0) = false ∧ a.length + 2 ≤ LIM ∧ ∀ p, M p = none → Q (.ref p) (um M p (.lst ((Txt.split a b).map U.str)))
  | _, _, _ => False
/-- the receiver is of the method's type -/
def rcvW (m : Mfn) (x : U) (M : Hm) : Prop := match m with
  | .append | .extend | .pop | .popAt | .index => ∃ p us, x = .ref p ∧ M p = some (.lst us)
  | .split => ∃ s, x = .str s
  | .pop2 => ∃ p ks, x = .ref p ∧ M p = some (.dct false true ks)
  | _ => False
def isTyW (x : U) (t : String) (M : Hm) (Q : Bool → Hm → Prop) : Prop := match x with
  | .non => Q (t == "NoneType") M
  | .bl _ => Q (t == "bool" || t == "int") M
  | .int _ => Q (t == "int") M
  | .str _ => Q (t == "str") M
  | .tup _ => Q (t == "tuple") M
  | .dtp _ => Q (t == "tuple") M
  | .ref p => ∃ us, M p = some (.lst us) ∧ Q (t == "list") M
  | .rol _ => False

/-! ### loops -/
/-- the slots of these forgotten -/
def wipU (σ : SU) : List Nat → SU
  | [] => σ
  | v :: vs => (wipU σ vs).set v none
def setAll : List Nat → List U → SU → Option SU
  | [], [], σ => some σ
  | i :: is, u :: us, σ => setAll is us (σ.set i (some u))
  | _, _, _ => none
def tgW (tg : Tg) (x : U) (σ : SU) (Q : SU → Prop) : Prop := match tg with
  | .one i => Q (σ.set i (some x))
  | .many is => ∃ l σ', x = .tup l ∧ setAll is l σ = some σ' ∧ Q σ'
def forL (step : U → (SU → Hm → Prop) → SU → Hm → Prop) (g : Hm → Prop) (fin : SU → Hm → Prop) : List U → SU → Hm → Prop
  | [], σ, M => fin σ M
  | x :: xs, σ, M => step x (fun σ' M' => g M' ∧ forL step g fin xs σ' M') σ M
def compL (step : U → (Option U → Hm → Prop) → Hm → Prop) (g : Hm → Prop) (fin : List U → Hm → Prop) : List U → List U → Hm → Prop
  | [], acc, M => fin acc M
  | x :: xs, acc, M => step x (fun o M' => g M' ∧ (o.isSome = true → acc.length < LIM) ∧ compL step g fin xs (acc ++ o.toList) M') M

/-! ### expressions -/
structure Wp where
  e : WE
  t : WT
  l : WL
  /-- a row of conditions: the tests by and, by or; the values by and, by or -/
  ta : WT
  to : WT
  va : WE
  vo : WE
  i : WI
def fE : WE := fun _ _ _ => False
def fT : WT := fun _ _ _ => False
def fI : WI := fun _ _ _ => False
/-- an expression whose test is its value's truth -/
def Wp.ofE (f : WE) : Wp := ⟨f, fun σ M Q => f σ M fun x M1 => truW x M1 Q, fun _ _ _ => False, fT, fT, fE, fE, fI⟩
/-- a comparison and its like: the value a bool -/
def Wp.ofB (f : WT) : Wp := ⟨fun σ M Q => f σ M fun b M1 => Q (.bl b) M1, f, fun _ _ _ => False, fT, fT, fE, fE, fI⟩
/-- never a test -/
def Wp.noT (f : WE) : Wp := ⟨f, fT, fun _ _ _ => False, fT, fT, fE, fE, fI⟩
def Wp.ofI (f : WI) : Wp := ⟨fE, fT, fun _ _ _ => False, fT, fT, fE, fE, f⟩
def bW (f : WE) (σ : SU) (M : Hm) (Q : Bool → Hm → Prop) : Prop := f σ M fun x M1 => ∃ b, x = .bl b ∧ Q b M1
def isNil : E → Bool
  | .nil => true
  | _ => false
def partW (e : E) (f : WE) : WO := fun σ M Q => if isNil e = true then Q none M else f σ M fun x M1 => ∃ i, x = .int i ∧ Q (some i) M1

/-- what is wanted of an error: its class, its dict -/
abbrev XU := Str → Option Addr → Hm → Prop
/-- how the callees keep their promises; what is wanted of an error that leaves the code here; the error that is held -/
structure CE where
  x : Nat → List U → Hm → QU → XU → Prop
  xc : Str → Option Addr → SU → Hm → Prop := fun _ _ _ _ => False
  cur : Option (Addr × Str × Option Addr) := none
/-- a call that lets no error out -/
instance ceFun : CoeFun CE (fun _ => Nat → List U → Hm → QU → Prop) := ⟨fun C f xs M Q => C.x f xs M Q fun _ _ _ => False⟩
/-- what can be told in an error's text -/
def tellU : U → Prop
  | .str y => y.length ≤ 1000
  | .int i => i.natAbs < 10 ^ 18
  | _ => False

def seqI (x : U) (M : Hm) (Q : List U → (Hm → Prop) → ((Hm → Prop) → Hm → Prop) → Hm → Prop) : Prop := match x with
  | .tup l => Q l (fun _ => True) (fun P => P) M
  | .rol l => Q l (fun _ => True) (fun P => P) M
  | .dtp l => Q l (fun _ => True) (fun P => P) M
  | .ref p => ∃ us, M p = some (.lst us) ∧ Q us (fun M' => M' p = some (.lst us)) (fun P => P) M
  | _ => False
def revI (x : U) (M : Hm) (Q : List U → (Hm → Prop) → ((Hm → Prop) → Hm → Prop) → Hm → Prop) : Prop := match x with
  | .tup l => Q l.reverse (fun _ => True) (fun P => P) M
  | .dtp l => Q l.reverse (fun _ => True) (fun P => P) M
  | .ref p => ∃ us, M p = some (.lst us) ∧ Q us.reverse (fun M' => M' p = some (.lst us)) (fun P => P) M
  | _ => False
def enumU (l : List U) : List U := l.zipIdx.map fun p => .tup [.int (p.2 : Nat), p.1]
def zipU (l r : List U) : List U := (l.zip r).map fun p => .tup [p.1, p.2]
/-- the items of a tuple -/
def tupOf : U → Option (List U)
  | .tup l => some l
  | .dtp l => some l
  | _ => none
/-- zip of two lists, of two tuples -/
def zipI (x y : U) (M : Hm) (Q : List U → (Hm → Prop) → ((Hm → Prop) → Hm → Prop) → Hm → Prop) : Prop :=
  (∃ l r, tupOf x = some l ∧ tupOf y = some r ∧ Q (zipU l r) (fun _ => True) (fun P => P) M) ∨
  ∃ p q us ws, x = .ref p ∧ y = .ref q ∧ M p = some (.lst us) ∧ M q = some (.lst ws) ∧ Q (zipU us ws) (fun M' => M' p = some (.lst us) ∧ M' q = some (.lst ws)) (fun P => P) M
def rngU (a b : Int) : List U := (List.range (b - a).toNat).map fun i => .int (a + (i : Nat))

/-- a comprehension over what is walked -/
def compW (fi : WI) (tg : Tg) (fc : WT) (fe : WE) : WE := fun σ M Q => fi σ M fun items g ex M1 =>
  compL (fun x k M => tgW tg x (wipU σ tg.slots) fun σ2 => fc σ2 M fun b M2 => if b = true then fe σ2 M2 fun y M3 => k (some y) M3 else k none M2)
    g (fun acc M => ex (fun M => ∀ p, M p = none → Q (.ref p) (um M p (.lst acc))) M) items [] M1

/-- a dict display -/
def flatU (kvs : List (Key × U)) : List U := kvs.flatMap fun p => [keyU p.1, p.2]
def dputs (kvs : List (Key × U)) (acc : List (U × U)) : List (U × U) := kvs.foldl (fun acc kv => dput acc (keyU kv.1) kv.2) acc
def ddispNW (f g : WE) : WE := fun σ M Q => ∀ p, M p = none → f σ (um M p (.dcn [])) fun k M1 => g σ M1 fun u M2 => M2 p = some (.dcn []) ∧ isKeyN k = true ∧ Q (.ref p) (um M2 p (.dcn [(k, u)]))
def ddispW (f : WL) : WE := fun σ M Q => ∀ p, M p = none → f σ (um M p (.dct false false [])) fun us M2 => M2 p = some (.dct false false []) ∧ ∃ kvs : List (Key × U), us = flatU kvs ∧ kvs.length ≤ 15 ∧ Q (.ref p) (um M2 p (.dct false false (dputs kvs [])))
/-- a dict of what is walked, its keys nested -/
def dcompL (step : U → (Hm → Prop) → Hm → Prop) (g : Hm → Prop) (fin : Hm → Prop) : List U → Hm → Prop
  | [], M => fin M
  | x :: xs, M => step x (fun M' => g M' ∧ dcompL step g fin xs M') M
def dsetN (p : Addr) (y z : U) (M : Hm) (k : Hm → Prop) : Prop := ∃ ks, M p = some (.dcn ks) ∧ isKeyN y = true ∧ ks.length < LIM ∧ k (um M p (.dcn (dput ks y z)))
abbrev dstepW (tg : Tg) (fc : WT) (fk fv : WE) (σ : SU) (p : Addr) : U → (Hm → Prop) → Hm → Prop := fun x k M => tgW tg x (wipU σ tg.slots) fun σ2 => fc σ2 M fun b M2 => if b = true then fk σ2 M2 fun y M3 => fv σ2 M3 fun z M4 => dsetN p y z M4 k else k M2
def dcompW (fi : WI) (tg : Tg) (fc : WT) (fk fv : WE) : WE := fun σ M Q => fi σ M fun items g ex M1 => ∀ p, M1 p = none → g (um M1 p (.dcn [])) ∧ dcompL (dstepW tg fc fk fv σ p) g (fun M => ex (fun M => Q (.ref p) M) M) items (um M1 p (.dcn []))

/-- one put at the end of the list that a comprehension makes -/
def appd (p : Addr) (v : U) (M : Hm) (k : Hm → Prop) : Prop := ∃ us, M p = some (.lst us) ∧ us.length < LIM ∧ k (um M p (.lst (us ++ [v])))
abbrev step1W (tg1 : Tg) (fc1 : WT) (fe : WE) (σ2 : SU) (p : Addr) : U → (Hm → Prop) → Hm → Prop := fun y k1 M => tgW tg1 y (wipU σ2 tg1.slots) fun σ3 => fc1 σ3 M fun b M' => if b = true then fe σ3 M' fun v M'' => appd p v M'' k1 else k1 M'
abbrev step2W (tg : Tg) (vs : List Nat) (fi1 : WI) (tg1 : Tg) (fc1 : WT) (fe : WE) (σ : SU) (p : Addr) : U → (Hm → Prop) → Hm → Prop := fun x k M => tgW tg x (wipU σ vs) fun σ2 => fi1 σ2 M fun items1 g1 ex1 M2 => dcompL (step1W tg1 fc1 fe σ2 p) g1 (fun M' => ex1 k M') items1 M2
def comp2W (fi : WI) (tg : Tg) (vs : List Nat) (fi1 : WI) (tg1 : Tg) (fc1 : WT) (fe : WE) : WE := fun σ M Q => fi σ M fun items g ex M1 => ∀ p, M1 p = none → g (um M1 p (.lst [])) ∧ dcompL (step2W tg vs fi1 tg1 fc1 fe σ p) g (fun M => ex (fun M => Q (.ref p) M) M) items (um M1 p (.lst []))
def w (C : CE) : E → Wp
  | .var i => .ofE fun σ M Q => ∃ u, σ[i]? = some (some u) ∧ Q u M
  | .int i => .ofE fun _ M Q => Q (.int i) M
  | .str x => .ofE fun _ M Q => Q (.str x) M
  | .bl b => .ofE fun _ M Q => Q (.bl b) M
  | .non => .ofE fun _ M Q => Q .non M
  | .nil => ⟨fE, fT, fun _ M Q => Q [] M, fun _ M Q => Q true M, fun _ M Q => Q false M, fE, fE, fI⟩
  | .cons a b => ⟨fE, fT, fun σ M Q => (w C a).e σ M fun x M1 => (w C b).l σ M1 fun xs M2 => Q (x :: xs) M2,
      if isNil b = true then (w C a).t else fun σ M Q => (w C a).t σ M fun c M1 => if c = true then (w C b).ta σ M1 Q else Q false M1,
      if isNil b = true then (w C a).t else fun σ M Q => (w C a).t σ M fun c M1 => if c = true then Q true M1 else (w C b).to σ M1 Q,
      if isNil b = true then (w C a).e else fun σ M Q => bW (w C a).e σ M fun c M1 => if c = true then (w C b).va σ M1 Q else Q (.bl false) M1,
      if isNil b = true then (w C a).e else fun σ M Q => bW (w C a).e σ M fun c M1 => if c = true then Q (.bl true) M1 else (w C b).vo σ M1 Q, fI⟩
  | .tup es => .ofE fun σ M Q => (w C es).l σ M fun xs M1 => xs.length ≤ LIM ∧ Q (.tup xs) M1
  | .dtup es => .ofE fun σ M Q => (w C es).l σ M fun xs M1 => xs.length ≤ LIM ∧ Q (.dtp xs) M1
  | .lst es => .ofE fun σ M Q => (w C es).l σ M fun xs M1 => xs.length ≤ LIM ∧ ∀ p, M1 p = none → Q (.ref p) (um M1 p (.lst xs))
  | .ddisp es => .ofE (ddispW (w C es).l)
  | .ddispN a b => .ofE (ddispNW (w C a).e (w C b).e)
  | .dnewN => .ofE fun _ M Q => ∀ p, M p = none → Q (.ref p) (um M p (.dcn []))
  | .dnew t => .ofE fun _ M Q => ∀ p, M p = none → Q (.ref p) (um M p (.dct false t []))
  | .bin op a b => .ofE fun σ M Q => (w C a).e σ M fun x M1 => (w C b).e σ M1 fun y M2 => binW op x y M2 Q
  | .neg a => .ofE fun σ M Q => (w C a).e σ M fun x M1 => ∃ i, x = .int i ∧ Q (.int (-i)) M1
  | .cmp op a b => .ofB fun σ M Q => (w C a).e σ M fun x M1 => (w C b).e σ M1 fun y M2 => cmpW op x y M2 Q
  | .chain o1 o2 a b c => .ofB fun σ M Q => (w C a).e σ M fun x M1 => (w C b).e σ M1 fun y M2 => cmpW o1 x y M2 fun k M3 =>
      if k = true then (w C c).e σ M3 fun z M4 => cmpW o2 y z M4 Q else Q false M3
  | .isN a => .ofB fun σ M Q => (w C a).e σ M fun x M1 => Q (decide (x = .non)) M1
  | .notN a => .ofB fun σ M Q => (w C a).e σ M fun x M1 => Q (!decide (x = .non)) M1
  | .isB neg b a => .ofB fun σ M Q => (w C a).e σ M fun x M1 => ∃ c, x = .bl c ∧ Q (if neg then !decide (c = b) else decide (c = b)) M1
  | .ands es => ⟨(w C es).va, (w C es).ta, fun _ _ _ => False, fT, fT, fE, fE, fI⟩
  | .ors es => ⟨(w C es).vo, (w C es).to, fun _ _ _ => False, fT, fT, fE, fE, fI⟩
  | .not a => ⟨fun σ M Q => (w C a).e σ M fun x M1 => truW x M1 fun b M2 => Q (.bl (!b)) M2, fun σ M Q => (w C a).t σ M fun b M1 => Q (!b) M1, fun _ _ _ => False, fT, fT, fE, fE, fI⟩
  | .ite c a b => .noT fun σ M Q => (w C c).t σ M fun k M1 => if k = true then (w C a).e σ M1 Q else (w C b).e σ M1 Q
  | .ix a i => .ofE fun σ M Q => (w C a).e σ M fun x M1 => (w C i).e σ M1 fun y M2 => ixW x y M2 Q
  | .dget o k d => .ofE fun σ M Q => (w C o).e σ M fun x M1 => isDW x M1 ∧ (w C k).e σ M1 fun y M2 => (w C d).e σ M2 fun v M3 => dgetW x y v M3 Q
  | .dget1 o k => .ofE fun σ M Q => (w C o).e σ M fun x M1 => isDW x M1 ∧ (w C k).e σ M1 fun y M2 => dgetW x y .non M2 Q
  | .slice a lo hi => .ofE fun σ M Q => (w C a).e σ M fun x M1 => partW lo (w C lo).e σ M1 fun l M2 => partW hi (w C hi).e σ M2 fun h M3 => sliceW x l h M3 Q
  | .call f es => .ofE fun σ M Q => (w C es).l σ M fun xs M1 => C f xs M1 Q
  | .blt f es => .ofE fun σ M Q => (w C es).l σ M fun xs M1 => bltW f xs M1 Q
  | .mth m o es => .ofE fun σ M Q => (w C o).e σ M fun x M1 => rcvW m x M1 ∧ (w C es).l σ M1 fun xs M2 => mthW m x xs M2 Q
  | .isinst a t => .ofB fun σ M Q => (w C a).e σ M fun x M1 => isTyW x t M1 Q
  | .comp _ tg it c elt => .ofE (compW (w C it).i tg (if isNil c = true then fun _ M Q => Q true M else (w C c).t) (w C elt).e)
  | .comp2 own tg it tg1 it1 c elt => .ofE (comp2W (w C it).i tg (own.map (·.2)) (w C it1).i tg1 (if isNil c = true then fun _ M Q => Q true M else (w C c).t) (w C elt).e)
  | .dcompN _ tg it c k v => .ofE (dcompW (w C it).i tg (if isNil c = true then fun _ M Q => Q true M else (w C c).t) (w C k).e (w C v).e)
  | .fld f o => .ofE fun σ M Q => (w C o).e σ M fun x M1 => ∃ p c fs v, x = .ref p ∧ M1 p = some (.obj c fs) ∧ fs.lookup f = some v ∧ Q v M1
  | .meth c m f o es => .ofE fun σ M Q => (w C o).e σ M fun x M1 => (∃ p fs, x = .ref p ∧ M1 p = some (.obj c fs) ∧ fs.lookup m = none) ∧ (w C es).l σ M1 fun xs M2 => C f (x :: xs) M2 Q
  | .make c f es => .ofE fun σ M Q => (w C es).l σ M fun xs M1 => ∀ p, M1 p = none → C f (.ref p :: xs) (um M1 p (.obj c [])) fun u M2 => u = .non ∧ Q (.ref p) M2
  | .prop c _ f o => .ofE fun σ M Q => (w C o).e σ M fun x M1 => (∃ p fs, x = .ref p ∧ M1 p = some (.obj c fs)) ∧ C f [x] M1 Q
  | .setdef o k d => .ofE fun σ M Q => (w C o).e σ M fun x M1 => isDW x M1 ∧ (w C k).e σ M1 fun y M2 => (w C d).e σ M2 fun v M3 => setdefW x y v M3 Q
  | .lrng t a b => .ofE fun σ M Q => partW a (w C a).e σ M fun lo M1 => (w C b).e σ M1 fun y M2 => ∃ n, y = .int n ∧ n ≤ LIM ∧ -LIM ≤ n ∧ lo.getD 0 ≤ LIM ∧ -LIM ≤ lo.getD 0 ∧
      if t = true then Q (.tup (rngU (lo.getD 0) n)) M2 else ∀ p, M2 p = none → Q (.ref p) (um M2 p (.lst (rngU (lo.getD 0) n)))
  | .tidx o e => .ofE fun σ M Q => (w C o).e σ M fun x M1 => (∃ l, x = .dtp l) ∧ (w C e).e σ M1 fun y M2 => tidxW x y M2 Q
  | .gint _ i => .ofE fun _ M Q => Q (.int i) M
  | .gstr _ s => .ofE fun _ M Q => Q (.str s) M
  | .gtup _ is => .ofE fun _ M Q => Q (.tup (is.map U.int)) M
  | .gdat _ u => .ofE fun _ M Q => Q u M
  | .dgetN o k d => .ofE fun σ M Q => (w C o).e σ M fun x M1 => (∃ p ks, x = .ref p ∧ M1 p = some (.dcn ks)) ∧ (w C k).e σ M1 fun y M2 => (w C d).e σ M2 fun v M3 => dgetNW x y v M3 Q
  | .sset a => .ofE fun σ M Q => (w C a).e σ M fun x M1 => ssetW x M1 Q
  | .callX f es => .ofE fun σ M Q => (w C es).l σ M fun xs M1 => C.x f xs M1 Q fun c d M2 => C.xc c d σ M2
  | .xfd f i cs => .ofE fun σ M Q => ∃ a cn d fs v, C.cur = some (a, cn, some d) ∧ cn ∈ cs ∧ σ[i]? = some (some (.ref a)) ∧ M d = some (.exd fs) ∧ fs.lookup f = some v ∧ Q v M
  | .isx i yes no => .ofB fun σ M Q => ∃ a cn d, C.cur = some (a, cn, d) ∧ σ[i]? = some (some (.ref a)) ∧ (cn ∈ yes ∨ cn ∈ no) ∧ (∀ dx, d = some dx → ∃ fs, M dx = some (.exd fs)) ∧ Q (decide (cn ∈ yes)) M
  | .iStr a => .ofI fun σ M Q => (w C a).e σ M fun x M1 => ∃ s, x = .str s ∧ Q (signs s) (fun _ => True) (fun P => P) M1
  | .iSeq a => .ofI fun σ M Q => (w C a).e σ M fun x M1 => seqI x M1 Q
  | .iRange a => .ofI fun σ M Q => (w C a).e σ M fun x M1 => ∃ n, x = .int n ∧ n ≤ LIM ∧ -LIM ≤ n ∧ Q (rngU 0 n) (fun _ => True) (fun P => P) M1
  | .iRange2 a b => .ofI fun σ M Q => (w C a).e σ M fun x M1 => (w C b).e σ M1 fun y M2 => ∃ m n, x = .int m ∧ y = .int n ∧ -LIM ≤ m ∧ m ≤ LIM ∧ n ≤ LIM ∧ -LIM ≤ n ∧ Q (rngU m n) (fun _ => True) (fun P => P) M2
  | .iRev a => .ofI fun σ M Q => (w C a).e σ M fun x M1 => revI x M1 Q
  | .iEnum a => .ofI fun σ M Q => (w C a).e σ M fun x M1 => seqI x M1 fun us g ex M2 => Q (enumU us) g ex M2
  | .iZip a b => .ofI fun σ M Q => (w C a).e σ M fun x M1 => (w C b).e σ M1 fun y M2 => zipI x y M2 Q
  | .iKeys a => .ofI fun σ M Q => ∃ i d t ks, a = .var i ∧ σ[i]? = some (some (.ref d)) ∧ M d = some (.dct false t ks) ∧
      Q (ks.map (·.1)) (fun M' => M' d = some (.dct true t ks)) (fun P M' => M' d = some (.dct true t ks) ∧ P (um M' d (.dct false t ks))) (um M d (.dct true t ks))

/-! ### statements -/
structure EndsU where
  nx : SU → Hm → Prop
  rt : QU
  bk : SU → Hm → Prop := fun _ _ => False
  ct : SU → Hm → Prop := fun _ _ => False

/-- an except suite's ends: its name goes -/
def EndsU.un (D : EndsU) : Option Nat → EndsU
  | none => D
  | some i => ⟨fun σ M => D.nx (σ.set i none) M, D.rt, fun σ M => D.bk (σ.set i none) M, fun σ M => D.ct (σ.set i none) M⟩
def setO (σ : SU) (i : Option Nat) (x : U) : SU := match i with
  | none => σ
  | some i => σ.set i (some x)
mutual
def wS : CE → S → EndsU → SU → Hm → Prop
  | C, .skip, D, σ, M => D.nx σ M
  | C, .seq a b, D, σ, M => wS C a { D with nx := wS C b D } σ M
  | C, .asg i e, D, σ, M => (w C e).e σ M fun x M1 => D.nx (σ.set i (some x)) M1
  | C, .asgT is e, D, σ, M => (w C e).e σ M fun x M1 => ∃ l σ', x = .tup l ∧ setAll is l σ = some σ' ∧ D.nx σ' M1
  | C, .asgU is e, D, σ, M => (w C e).e σ M fun x M1 => ∃ p l σ', x = .ref p ∧ M1 p = some (.lst l) ∧ setAll is l σ = some σ' ∧ D.nx σ' M1
  | C, .par i j a b, D, σ, M => (w C a).e σ M fun x M1 => (w C b).e σ M1 fun y M2 => D.nx ((σ.set i (some x)).set j (some y)) M2
  | C, .setF c f o e, D, σ, M => (w C e).e σ M fun v M1 => (w C o).e σ M1 fun x M2 => ∃ p fs, x = .ref p ∧ M2 p = some (.obj c fs) ∧ fs.length < 1000 ∧ D.nx σ (um M2 p (.obj c (fput f v fs)))
  | C, .setIx o i e, D, σ, M => (w C e).e σ M fun v M1 => (w C o).e σ M1 fun x M2 => (w C i).e σ M2 fun y M3 => setW x y v M3 (D.nx σ)
  | C, .delIx o i, D, σ, M => (w C o).e σ M fun x M1 => (w C i).e σ M1 fun y M2 => ∃ p ks, x = .ref p ∧ M2 p = some (.dct false false ks) ∧ isKey y = true ∧ (dfind ks y).isSome = true ∧ D.nx σ (um M2 p (.dct false false (ddrop ks y)))
  | C, .augV i op e, D, σ, M => ∃ x, σ[i]? = some (some x) ∧ (w C e).e σ M fun y M1 => ∃ a b, x = .int a ∧ y = .int b ∧ binW op x y M1 fun z M2 => D.nx (σ.set i (some z)) M2
  | C, .augIx o i op e, D, σ, M => (w C o).e σ M fun x M1 => (w C i).e σ M1 fun y M2 => getW x y M2 fun v M3 => (w C e).e σ M3 fun z M4 => ∃ a b, v = .int a ∧ z = .int b ∧ binW op v z M4 fun r M5 => setW x y r M5 (D.nx σ)
  | C, .ifs c a b, D, σ, M => (w C c).t σ M fun k M1 => if k = true then wS C a D σ M1 else wS C b D σ M1
  | C, .for_ tg it b, D, σ, M => (w C it).i σ M fun items g ex M1 =>
      forL (fun x nx σ M => tgW tg x σ fun σ2 => wS C b ⟨nx, fun u M => ex (D.rt u) M, fun σ M => ex (D.nx σ) M, nx⟩ σ2 M) g (fun σ M => ex (D.nx σ) M) items σ M1
  | C, .whl c b, D, σ, M => ∃ W : Nat → SU → Hm → Prop, (∃ m, W m σ M) ∧ ∀ m σ M, W m σ M → (w C c).t σ M fun k M1 =>
      if k = true then wS C b ⟨fun σ' M' => ∃ m', m' < m ∧ W m' σ' M', D.rt, D.nx, fun σ' M' => ∃ m', m' < m ∧ W m' σ' M'⟩ σ M1 else D.nx σ M1
  | C, .ret e, D, σ, M => (w C e).e σ M D.rt
  | C, .retN, D, _, M => D.rt .non M
  | C, .brk, D, σ, M => D.bk σ M
  | C, .cnt, D, σ, M => D.ct σ M
  | C, .expr e, D, σ, M => (w C e).e σ M fun _ M1 => D.nx σ M1
  | C, .nvr, _, _, _ => False
  | C, .raise1 c f e, _, σ, M => (w C e).e σ M fun x M1 => tellU x ∧ ∀ d, M1 d = none → C.xc c (some d) σ (um M1 d (.exd [(f, x)]))
  | C, .raise0 c, _, σ, M => C.xc c none σ M
  | C, .try_ b h, D, σ, M => wS ⟨C.x, fun c d σ' M' => wH C h D c d σ' M', C.cur⟩ b D σ M
  | _, .hdl _ _ _ _ _, _, _, _ => False
/-- the clauses of a try -/
def wH : CE → S → EndsU → Str → Option Addr → SU → Hm → Prop
  | C, .hdl i yes no s r, D, c, d, σ, M => (c ∈ yes ∨ c ∈ no) ∧ (c ∈ yes → ∀ a, M a = none → wS ⟨C.x, fun _ _ _ _ => False, some (a, c, d)⟩ s (D.un i) (setO σ i (.ref a)) M) ∧ (c ∈ no → wH C r D c d σ M)
  | C, .skip, _, c, d, σ, M => C.xc c d σ M
  | _, _, _, _, _, _, _ => False
end

/-- one def: its name, its parameters, all its names by slot, its body; a method's: its class, its name in full, whether it is a property's -/
structure Df where
  name : Str
  ps : List Str
  N : List Str
  b : S
  cls : Option Str := none
  qual : Str := name
  prp : Bool := false
/-- one class: its name, its __init__, its fields, its methods, its properties -/
structure Cd where
  name : Str
  init : Option Nat
  flds : List Str
  mets : List (Str × Nat)
  prps : List (Str × Nat)
def startU (n : Nat) (us : List U) : SU := us.map some ++ List.replicate (n - us.length) none
/-- what is forgotten does not harm -/
def Sub (M' M : Hm) : Prop := ∀ a o, M' a = some o → M a = some o
/-- the promises at depth k -/
def CsX (T : List Df) : Nat → Nat → List U → Hm → QU → XU → Prop
  | 0 => fun _ _ _ _ _ => False
  | k + 1 => fun f us M Q E => ∃ d, T[f]? = some d ∧ us.length = d.ps.length ∧
      wS ⟨CsX T k, fun c dx _ M' => E c dx M', none⟩ d.b ⟨fun _ M' => ∃ M'', Sub M'' M' ∧ Q .non M'', fun u M' => ∃ M'', Sub M'' M' ∧ Q u M'', fun _ _ => False, fun _ _ => False⟩ (startU d.N.length us) M
def Cs (T : List Df) (k : Nat) : CE := ⟨CsX T k, fun _ _ _ _ => False, none⟩
end Pl

set_option maxHeartbeats 4000000
/-! operations by values keep what they are said to do -/
namespace Pl
open PySem L2
theorem lim_line : LIM < sizeLine := by rw [sizeLine_eq]; decide
theorem le_line {n : Nat} (h : n ≤ LIM) : n ≤ sizeLine := Nat.le_trans h (Nat.le_of_lt lim_line)
theorem lt_line {n : Nat} (h : n < LIM) : n < sizeLine := Nat.lt_trans h lim_line

section
variable {K : Kw} {H H' : Hp} {M M' : Hm}
theorem RelL.length {vs : List V} {us : List U} (h : RelL K H vs us) : vs.length = us.length := by
  induction vs generalizing us with
  | nil => cases h; rfl
  | cons v vs ih => cases h with
    | cons a b => rw [List.length_cons, List.length_cons, ih b]
theorem RelL.get {vs : List V} {us : List U} {i : Nat} {u : U} (h : RelL K H vs us) (e : us[i]? = some u) : ∃ v, vs[i]? = some v ∧ Rel K H v u := by
  induction vs generalizing us i with
  | nil => cases h; simp at e
  | cons v vs ih => cases h with
    | cons a b => cases i with
      | zero => simp at e; subst e; exact ⟨v, rfl, a⟩
      | succ i => obtain ⟨x, q, r⟩ := ih b (by simpa using e); exact ⟨x, by simpa using q, r⟩
theorem RelL.append {vs ws : List V} {us xs : List U} (h : RelL K H vs us) (k : RelL K H ws xs) : RelL K H (vs ++ ws) (us ++ xs) := by
  induction vs generalizing us with
  | nil => cases h; exact k
  | cons v vs ih => cases h with
    | cons a b => exact .cons a (ih b)
theorem RelL.take {vs : List V} {us : List U} (n : Nat) (h : RelL K H vs us) : RelL K H (vs.take n) (us.take n) := by
  induction n generalizing vs us with
  | zero => exact .nil
  | succ n ih => cases h with
    | nil => exact .nil
    | cons a b => exact .cons a (ih b)
theorem RelL.drop {vs : List V} {us : List U} (n : Nat) (h : RelL K H vs us) : RelL K H (vs.drop n) (us.drop n) := by
  induction n generalizing vs us with
  | zero => exact h
  | succ n ih => cases h with
    | nil => exact .nil
    | cons a b => exact ih b
theorem RelL.set {vs : List V} {us : List U} {v : V} {u : U} (k : Nat) (r : Rel K H v u) (h : RelL K H vs us) : RelL K H (vs.set k v) (us.set k u) := by
  induction k generalizing vs us with
  | zero => cases h with
    | nil => exact .nil
    | cons a b => exact .cons r b
  | succ n ih => cases h with
    | nil => exact .nil
    | cons a b => exact .cons a (ih b)
theorem RelL.eraseIdx {vs : List V} {us : List U} (k : Nat) (h : RelL K H vs us) : RelL K H (vs.eraseIdx k) (us.eraseIdx k) := by
  induction k generalizing vs us with
  | zero => cases h with
    | nil => exact .nil
    | cons a b => exact b
  | succ n ih => cases h with
    | nil => exact .nil
    | cons a b => exact .cons a (ih b)
theorem RelL.dropLast {vs : List V} {us : List U} (h : RelL K H vs us) : RelL K H vs.dropLast us.dropLast := by
  rw [List.dropLast_eq_take, List.dropLast_eq_take, h.length]
  exact h.take _
theorem RelL.rep {vs : List V} {us : List U} (h : RelL K H vs us) : ∀ n : Nat, RelL K H (List.replicate n vs).flatten (List.replicate n us).flatten
  | 0 => .nil
  | n + 1 => by
    rw [List.replicate_succ, List.replicate_succ, List.flatten_cons, List.flatten_cons]
    exact h.append (RelL.rep h n)
theorem RelL.strs : ∀ xs : List Str, RelL K H (xs.map V.str) (xs.map U.str)
  | [] => .nil
  | x :: xs => .cons (.str x) (RelL.strs xs)
theorem RelL.nil_iff {vs : List V} {us : List U} (h : RelL K H vs us) : vs = [] ↔ us = [] := by
  cases h <;> simp
theorem RelL.isEmpty {vs : List V} {us : List U} (h : RelL K H vs us) : vs.isEmpty = us.isEmpty := by
  cases h <;> rfl

/-! ### how the heap grows -/
theorem Paired.mapR {α β : Type} {F G : α → β → Prop} {xs : List α} {ys : List β} (h : Paired F xs ys) (k : ∀ a b, F a b → G a b) : Paired G xs ys := by
  induction h with
  | nil => exact .nil
  | cons a _ ih => exact .cons (k _ _ a) ih
theorem OR.stp (S : Sim K H M) (t : Stp H M H' M') {a : Addr} {o : MO} (e : H' a = H a) (h : OR K H a o) : OR K H' a o := by
  cases o with
  | lst us =>
    obtain ⟨vs, q, r⟩ := h
    exact ⟨vs, by rw [e]; exact q, r.stp S t⟩
  | dct z tt ks =>
    cases tt with
    | false => obtain ⟨kvs, q, r⟩ := h; exact ⟨kvs, by rw [e]; exact q, Paired.mapR r fun p q x => ⟨x.1, x.2.stp S t⟩⟩
    | true => obtain ⟨kvs, q, r⟩ := h; exact ⟨kvs, by rw [e]; exact q, Paired.mapR r fun p q x => ⟨x.1, x.2.stp S t⟩⟩
  | dcn ks => obtain ⟨xs, q, r, r2⟩ := h; exact ⟨xs, by rw [e]; exact q, Paired.mapR r fun p q x => ⟨⟨x.1.1, x.1.2.1, x.1.2.2.stp S t⟩, x.2.elim fun v y => ⟨v, y.1, y.2.stp S t⟩⟩, r2⟩
  | obj c fs => obtain ⟨dx, vs, q, r, r2⟩ := h; exact ⟨dx, vs, by rw [e]; exact q, Paired.mapR r fun p q x => ⟨x.1, x.2.stp S t⟩, r2⟩
  | exd fs => obtain ⟨vs, q, r⟩ := h; exact ⟨vs, by rw [e]; exact q, Paired.mapR r fun p q x => ⟨x.1, x.2.stp S t⟩⟩
theorem Sim.to (S : Sim K H M) (t : Stp H M H' M') (h : ∀ a o, M' a = some o → (M a = some o ∧ H' a = H a) ∨ OR K H' a o) : Sim K H' M' := ⟨fun a o e => by
  rcases h a o e with ⟨e1, e2⟩ | q
  · exact (S a o e1).stp S t e2
  · exact q, S.antr t⟩
theorem Stp.new {p : Addr} {o : HO} {m : MO} (S : Sim K H M) (hp : H p = none) : Stp H M (upd H p o) (um M p m) :=
  ⟨fun a x h n =>
    have ne : a ≠ p := ne_of_none h hp
    ⟨by rw [upd_ne ne]; exact h, by rw [um_ne ne]; exact n⟩, fun a t ks e => by
    obtain ⟨x, h⟩ := (S a _ e).has
    have ne : a ≠ p := ne_of_none h hp
    exact ⟨upd_ne ne, .inl (um_ne ne)⟩⟩
theorem Stp.newT {p : Addr} {o : HO} (S : Sim K H M) (hp : H p = none) : Stp H M (upd H p o) M :=
  ⟨fun a x h n => ⟨by rw [upd_ne (ne_of_none h hp)]; exact h, n⟩, fun a t ks e => by
    obtain ⟨x, h⟩ := (S a _ e).has
    exact ⟨upd_ne (ne_of_none h hp), .inl rfl⟩⟩
def unlocked : MO → Bool
  | .dct true _ _ => false
  | _ => true
theorem Stp.mut {p : Addr} {o : HO} {m m' : MO} (hp : M p = some m') (hu : unlocked m' = true := by rfl) : Stp H M (upd H p o) (um M p m) :=
  ⟨fun a x h n =>
    have ne : a ≠ p := fun e => by rw [e, hp] at n; cases n
    ⟨by rw [upd_ne ne]; exact h, by rw [um_ne ne]; exact n⟩, fun a t ks e => by
    have ne : a ≠ p := fun z => by
      rw [z, hp] at e
      cases e
      cases hu
    exact ⟨upd_ne ne, .inl (um_ne ne)⟩⟩
theorem Sim.new (S : Sim K H M) {p : Addr} {o : HO} {m : MO} (hp : H p = none) (new : OR K (upd H p o) p m) : Sim K (upd H p o) (um M p m) :=
  S.to (Stp.new S hp) fun a x e => by
    by_cases h : a = p
    · subst h
      rw [um_same] at e
      cases e
      exact .inr new
    · rw [um_ne h] at e
      exact .inl ⟨e, upd_ne h⟩
theorem Sim.newT (S : Sim K H M) {p : Addr} {vs : List V} (hp : H p = none) : Sim K (upd H p (.tup vs)) M :=
  S.to (Stp.newT S hp) fun a x e => .inl ⟨e, upd_ne fun z => by
    have q := S.fr hp
    rw [z, q] at e
    cases e⟩
theorem Sim.mut (S : Sim K H M) {p : Addr} {o : HO} {m m' : MO} (hp : M p = some m') (hu : unlocked m' = true) (new : OR K (upd H p o) p m) : Sim K (upd H p o) (um M p m) :=
  S.to (Stp.mut hp hu) fun a x e => by
    by_cases h : a = p
    · subst h
      rw [um_same] at e
      cases e
      exact .inr new
    · rw [um_ne h] at e
      exact .inl ⟨e, upd_ne h⟩
theorem Stp.sub (s : Sub M' M) : Stp H M H M' := ⟨fun a o h n => ⟨h, by
  cases e : M' a with
  | none => rfl
  | some x => rw [s a x e] at n; cases n⟩, fun a t ks e => ⟨rfl, by
  cases e2 : M' a with
  | none => exact .inr rfl
  | some x => exact .inl (s a x e2).symm⟩⟩
theorem Sim.sub (S : Sim K H M) (s : Sub M' M) : Sim K H M' := ⟨fun a o e => S a o (s a o e), S.antr (Stp.sub s)⟩
end

/-! ### continuations -/
def Cont (K : Kw) (H : Hp) (M : Hm) (Qu : QU) (Q : VK) : Prop := ∀ v H' u M', Stp H M H' M' → Sim K H' M' → Rel K H' v u → Qu u M' → Q v H'
def ContB (K : Kw) (H : Hp) (M : Hm) (Qu : Bool → Hm → Prop) (Q : Bool → Hp → Prop) : Prop := ∀ b H' M', Stp H M H' M' → Sim K H' M' → Qu b M' → Q b H'
def ContL (K : Kw) (H : Hp) (M : Hm) (Qu : List U → Hm → Prop) (Q : List V → Hp → Prop) : Prop := ∀ v H' u M', Stp H M H' M' → Sim K H' M' → RelL K H' v u → Qu u M' → Q v H'
section
variable {K : Kw} {H H' : Hp} {M M' : Hm} {Qu : QU} {Q : VK}
theorem Cont.at_ (c : Cont K H M Qu Q) (S : Sim K H M) {v : V} {u : U} (r : Rel K H v u) (q : Qu u M) : Q v H := c v H u M (Stp.refl H M) S r q
theorem Cont.bl (c : Cont K H M (fun u M => ∃ b, u = .bl b ∧ Qu u M) Q) : True := trivial
theorem Cont.tr {H1 : Hp} {M1 : Hm} (S0 : Sim K H M) (t : Stp H M H1 M1) (c : Cont K H M Qu Q) : Cont K H1 M1 Qu Q := fun v H' u M' t' S r q => c v H' u M' (t.trans S0 t') S r q
theorem ContB.tr {H1 : Hp} {M1 : Hm} {Qu : Bool → Hm → Prop} {Q : Bool → Hp → Prop} (S0 : Sim K H M) (t : Stp H M H1 M1) (c : ContB K H M Qu Q) : ContB K H1 M1 Qu Q := fun v H' M' t' S q => c v H' M' (t.trans S0 t') S q
theorem ContL.tr {H1 : Hp} {M1 : Hm} {Qu : List U → Hm → Prop} {Q : List V → Hp → Prop} (S0 : Sim K H M) (t : Stp H M H1 M1) (c : ContL K H M Qu Q) : ContL K H1 M1 Qu Q := fun v H' u M' t' S r q => c v H' u M' (t.trans S0 t') S r q
/-- a new tuple -/
theorem Cont.tup (c : Cont K H M Qu Q) (S : Sim K H M) {vs : List V} {us : List U} (r : RelL K H vs us) (q : Qu (.tup us) M) {p : Addr} (hp : H p = none) : Q (.ref p) (upd H p (.tup vs)) :=
  c _ _ (.tup us) M (Stp.newT S hp) (S.newT hp) (.tup (.inl upd_same) (r.stp S (Stp.newT S hp))) q
/-- a new list -/
theorem Cont.lst (c : Cont K H M Qu Q) (S : Sim K H M) {vs : List V} {us : List U} (r : RelL K H vs us) (q : ∀ p, M p = none → Qu (.ref p) (um M p (.lst us))) {p : Addr} (hp : H p = none) : Q (.ref p) (upd H p (.lst vs)) :=
  c _ _ (.ref p) (um M p (.lst us)) (Stp.new S hp) (S.new (m := .lst us) hp ⟨vs, upd_same, r.stp S (Stp.new (m := .lst us) S hp)⟩) (.ref p) (q p (S.fr hp))
/-- a list changed -/
theorem Cont.mutL (c : Cont K H M Qu Q) (S : Sim K H M) {p : Addr} {ws : List U} {vs : List V} {us : List U} (hm : M p = some (.lst ws)) (r : RelL K H vs us) {v : V} {u : U} (rv : Rel K H v u) (q : Qu u (um M p (.lst us))) : Q v (upd H p (.lst vs)) :=
  c _ _ u (um M p (.lst us)) (Stp.mut hm) (S.mut (m := .lst us) hm rfl ⟨vs, upd_same, r.stp S (Stp.mut (m := .lst us) hm)⟩) (rv.stp S (Stp.mut (m := .lst us) hm)) q
end
/-- the reading of a two-place operation -/
def R2s (K : Kw) (f : U → U → Hm → QU → Prop) : R2 := fun x y H Q => ∃ a b M Qu, Sim K H M ∧ Rel K H x a ∧ Rel K H y b ∧ f a b M Qu ∧ Cont K H M Qu Q
def bopOf : Bop → Operator
  | .add => .Add | .sub => .Sub | .mul => .Mult | .fdiv => .FloorDiv | .mod => .Mod | .pow => .Pow | .shl => .LShift | .shr => .RShift | .band => .BitAnd | .bor => .BitOr
def copOf : Cop → CmpOp
  | .eq => .Eq | .ne => .NotEq | .lt => .Lt | .le => .LtE | .gt => .Gt | .ge => .GtE | .isin => .In | .notin => .NotIn | .eqb => .Eq | .neb => .NotEq
section
variable {X : Cy}
theorem op_binS (op : Bop) : OpR X (binaryOp (bopOf op)) (R2s (kwX X) (binW op)) := by
  intro pins s σ H x y v u Q I rx ry h
  obtain ⟨a, b, M, Qu, S, ra, rb, hf, c⟩ := h
  have int2 : ∀ {i j : Int}, a = .int i → b = .int j → x = .int i ∧ y = .int j := fun {i j} e1 e2 => by
    subst e1 e2
    cases ra
    cases rb
    exact ⟨rfl, rfl⟩
  unfold binW at hf
  split at hf
  · cases ra; cases rb; exact op_add pins s σ H _ _ v u Q I rx ry ⟨_, _, rfl, rfl, c.at_ S (.int _) hf⟩
  · cases ra; cases rb; exact op_sub pins s σ H _ _ v u Q I rx ry ⟨_, _, rfl, rfl, c.at_ S (.int _) hf⟩
  · cases ra; cases rb; exact op_mul pins s σ H _ _ v u Q I rx ry ⟨_, _, rfl, rfl, hf.1, c.at_ S (.int _) hf.2⟩
  · cases ra; cases rb; exact op_fdiv pins s σ H _ _ v u Q I rx ry ⟨_, _, rfl, rfl, hf.1, c.at_ S (.int _) hf.2⟩
  · cases ra; cases rb; exact op_mod pins s σ H _ _ v u Q I rx ry ⟨_, _, rfl, rfl, hf.1, c.at_ S (.int _) hf.2⟩
  · cases ra; cases rb; exact op_pow pins s σ H _ _ v u Q I rx ry ⟨_, _, rfl, rfl, hf.1, c.at_ S (.int _) hf.2⟩
  · cases ra; cases rb; exact op_shl pins s σ H _ _ v u Q I rx ry ⟨_, _, rfl, rfl, hf.1, c.at_ S (.int _) hf.2⟩
  · cases ra; cases rb; exact op_shr pins s σ H _ _ v u Q I rx ry ⟨_, _, rfl, rfl, hf.1, c.at_ S (.int _) hf.2⟩
  · cases ra; cases rb; exact op_and pins s σ H _ _ v u Q I rx ry ⟨_, _, rfl, rfl, c.at_ S (.int _) hf⟩
  · cases ra; cases rb; exact op_or pins s σ H _ _ v u Q I rx ry ⟨_, _, rfl, rfl, c.at_ S (.int _) hf⟩
  · cases ra; cases rb; exact op_add_str pins s σ H _ _ v u Q I rx ry ⟨_, _, rfl, rfl, le_line hf.1, c.at_ S (.str _) hf.2⟩
  · cases ra with
    | tup t1 r1 =>
      cases rb with
      | tup t2 r2 =>
        rename_i la lb p vs q ws
        refine op_catA pins s σ H _ _ v u Q I rx ry ⟨p, q, vs, ws, rfl, rfl, t1.sq, t2.sq, by rw [r1.length, r2.length]; exact le_line hf.1, fun e => ?_, fun _ e => ?_, fun _ _ n hn => c.tup S (r1.append r2) hf.2 hn⟩
        · have e1 : la = [] := r1.nil_iff.mp e
          have q2 := hf.2
          rw [e1, List.nil_append] at q2
          exact c.at_ S (.tup t2 r2) q2
        · have e1 : lb = [] := r2.nil_iff.mp e
          have q2 := hf.2
          rw [e1, List.append_nil] at q2
          exact c.at_ S (.tup t1 r1) q2
  · obtain ⟨us, h1, k1, k2, hl, hq⟩ := hf
    obtain ⟨vs, g1, r1⟩ := S _ _ h1
    cases ra; cases rb
    refine op_rep pins s σ H _ _ v u Q I rx ry ⟨_, _, vs, rfl, rfl, g1, by unfold LIM at k1; omega, by unfold LIM at k2; omega, by rw [r1.length]; exact le_line hl, fun n hn => c.lst S (RelL.rep r1 _) hq hn⟩
  · obtain ⟨us, ws, h1, h2, hl, hq⟩ := hf
    obtain ⟨vs, g1, r1⟩ := S _ _ h1
    obtain ⟨xs, g2, r2⟩ := S _ _ h2
    cases ra; cases rb
    exact op_cat pins s σ H _ _ v u Q I rx ry ⟨_, _, _, _, rfl, rfl, g1, g2, by rw [r1.length, r2.length]; exact le_line hl, fun n hn => c.lst S (r1.append r2) hq hn⟩
  · exact hf.elim
end
end Pl

set_option maxHeartbeats 4000000
/-! comparisons, truth, subscripts, stores, built-ins by values -/
namespace Pl
open PySem L2
section
variable {K : Kw} {H H' : Hp} {M M' : Hm}
mutual
theorem ok_dp : ∀ (n : Nat) (u : U) (v : V), u.ok n = true → Rel K H v u → Dp K H v (pd u)
  | _, .non, _, _, r => by cases r; exact .non
  | _, .int i, _, _, r => by cases r; exact .int i
  | _, .str x, _, _, r => by cases r; exact .str x
  | n + 1, .tup l, _, h, r => by
    cases r with
    | tup t rl => exact .tup t.sq (ok_dpL n l _ (by simpa [U.ok] using h) rl)
  | 0, .tup l, _, h, r => by simp [U.ok] at h
  | _, .bl _, _, h, _ => by simp [U.ok] at h
  | _, .ref _, _, h, _ => by simp [U.ok] at h
  | _, .rol _, _, h, _ => by simp [U.ok] at h
  | _, .dtp _, _, h, _ => by simp [U.ok] at h
theorem ok_dpL : ∀ (n : Nat) (l : List U) (vs : List V), (∀ x ∈ l, x.ok n = true) → RelL K H vs l → DpAll K H vs (pdL l)
  | _, [], _, _, r => by cases r; exact .nil
  | n, x :: xs, _, h, r => by
    cases r with
    | cons a b => exact .cons (ok_dp n x _ (h x List.mem_cons_self) a) (ok_dpL n xs _ (fun y hy => h y (List.mem_cons_of_mem _ hy)) b)
end
end
mutual
theorem ok_lay : ∀ (n : Nat) (u : U), u.ok n = true → (pd u).canLay0 = true ∧ (pd u).depth ≤ n
  | _, .non, _ => ⟨by simp [pd, PyData.canLay0], by simp [pd, PyData.depth]⟩
  | _, .int i, _ => ⟨by simp [pd, PyData.canLay0], by simp [pd, PyData.depth]⟩
  | _, .str x, h => ⟨by
    have q : okS x = true := by simpa [U.ok] using h
    simp only [pd, PyData.canLay0]
    exact q, by simp [pd, PyData.depth]⟩
  | n + 1, .tup l, h => by
    obtain ⟨a, b⟩ := ok_layL n l (by simpa [U.ok] using h)
    refine ⟨?_, ?_⟩
    · simp only [pd, PyData.canLay0]; exact a
    · simp only [pd, PyData.depth]; omega
  | 0, .tup l, h => by simp [U.ok] at h
  | _, .bl _, h => by simp [U.ok] at h
  | _, .ref _, h => by simp [U.ok] at h
  | _, .rol _, h => by simp [U.ok] at h
  | _, .dtp _, h => by simp [U.ok] at h
theorem ok_layL : ∀ (n : Nat) (l : List U), (∀ x ∈ l, x.ok n = true) → PyData.canLayAll0 (pdL l) = true ∧ PyData.depthAll (pdL l) ≤ n
  | _, [], _ => ⟨by simp [pdL, PyData.canLayAll0], by simp [pdL, PyData.depthAll]⟩
  | n, x :: xs, h => by
    obtain ⟨a, b⟩ := ok_lay n x (h x List.mem_cons_self)
    obtain ⟨c, d⟩ := ok_layL n xs (fun y hy => h y (List.mem_cons_of_mem _ hy))
    refine ⟨?_, ?_⟩
    · simp only [pdL, PyData.canLayAll0, a, c, Bool.and_self]
    · simp only [pdL, PyData.depthAll]; omega
end
mutual
theorem ok_eqv : ∀ (n : Nat) (u : U) (m : Nat) (x : U), u.ok n = true → x.ok m = true → PyData.eqv (pd u) (pd x) = decide (u = x)
  | _, .non, m, x, _, h => by cases x <;> first | (simp [pd, PyData.eqv]; done) | simp [U.ok] at h
  | _, .int i, m, x, _, h => by cases x <;> first | (simp [pd, PyData.eqv, Bool.beq_eq_decide_eq]; done) | simp [U.ok] at h
  | _, .str s, m, x, _, h => by cases x <;> first | (simp [pd, PyData.eqv, Bool.beq_eq_decide_eq]; done) | simp [U.ok] at h
  | n + 1, .tup l, m, x, g, h => by
    cases x with
    | tup l2 =>
      cases m with
      | zero => simp [U.ok] at h
      | succ m =>
        have q := ok_eqvL n l m l2 (by simpa [U.ok] using g) (by simpa [U.ok] using h)
        simp only [pd, PyData.eqv, q, U.tup.injEq]
    | bl _ => simp [U.ok] at h
    | ref _ => simp [U.ok] at h
    | rol _ => simp [U.ok] at h
    | dtp _ => simp [U.ok] at h
    | _ => simp [pd, PyData.eqv]
  | 0, .tup l, _, _, h, _ => by simp [U.ok] at h
  | _, .bl _, _, _, h, _ => by simp [U.ok] at h
  | _, .ref _, _, _, h, _ => by simp [U.ok] at h
  | _, .rol _, _, _, h, _ => by simp [U.ok] at h
  | _, .dtp _, _, _, h, _ => by simp [U.ok] at h
theorem ok_eqvL : ∀ (n : Nat) (l : List U) (m : Nat) (l2 : List U), (∀ x ∈ l, x.ok n = true) → (∀ x ∈ l2, x.ok m = true) → PyData.eqvAll (pdL l) (pdL l2) = decide (l = l2)
  | _, [], _, [], _, _ => by simp [pdL, PyData.eqvAll]
  | _, [], _, _ :: _, _, _ => by simp [pdL, PyData.eqvAll]
  | _, _ :: _, _, [], _, _ => by simp [pdL, PyData.eqvAll]
  | n, x :: xs, m, y :: ys, g, h => by
    have a := ok_eqv n x m y (g x List.mem_cons_self) (h y List.mem_cons_self)
    have b := ok_eqvL n xs m ys (fun z hz => g z (List.mem_cons_of_mem _ hz)) (fun z hz => h z (List.mem_cons_of_mem _ hz))
    simp only [pdL, PyData.eqvAll, a, b, List.cons.injEq, Bool.decide_and]
end
theorem ok_shaped {n : Nat} {u : U} (h : u.ok n = true) (hn : n ≤ 64) : SeqAt.shaped (pd u) = true := by
  obtain ⟨a, b⟩ := ok_lay n u h
  unfold SeqAt.shaped
  rw [a, Bool.true_and]
  exact decide_eq_true (by omega)
theorem okL_all {l : List U} (h : okL l = true) : ∀ x ∈ l, x.ok 59 = true := List.all_eq_true.mp h
theorem okL_shaped {l : List U} (h : okL l = true) : SeqAt.shaped (.list (pdL l)) = true := by
  obtain ⟨a, b⟩ := ok_layL 59 l (okL_all h)
  unfold SeqAt.shaped
  have e : (PyData.list (pdL l)).canLay0 = true := by simp only [PyData.canLay0]; exact a
  rw [e, Bool.true_and]
  exact decide_eq_true (by simp only [PyData.depth]; omega)
theorem any_eqv {x : U} (hx : okU x = true) : ∀ (l : List U), (∀ y ∈ l, y.ok 59 = true) → ((pdL l).any fun z => PyData.eqv z (pd x)) = decide (x ∈ l)
  | [], _ => by simp [pdL]
  | y :: ys, h => by
    have a := ok_eqv 59 y 60 x (h y List.mem_cons_self) hx
    have b := any_eqv hx ys fun z hz => h z (List.mem_cons_of_mem _ hz)
    rw [pdL, List.any_cons, a, b, ← Bool.decide_or]
    exact decide_eq_decide.mpr ⟨fun z => z.elim (fun e => by rw [e]; exact List.mem_cons_self) (List.mem_cons_of_mem _), fun z => (List.mem_cons.mp z).elim (fun e => .inl e.symm) .inr⟩

/-! ### keys -/
section
variable {K : Kw} {H H' : Hp} {M M' : Hm}
theorem isKey_of {u : U} {v : V} (h : isKey u = true) (r : Rel K H v u) : ∃ k : Key, u = keyU k ∧ v = kV k := by
  cases r with
  | int i => exact ⟨.inl i, rfl, rfl⟩
  | str x => exact ⟨.inr x, rfl, rfl⟩
  | _ => cases h
theorem isKeys_of : ∀ {us : List U} {vs : List V}, us.all isKey = true → RelL K H vs us → ∃ ks : List Key, us = ks.map keyU ∧ vs = ks.map kV
  | [], _, _, r => by cases r; exact ⟨[], rfl, rfl⟩
  | u :: us, _, h, r => by
    cases r with
    | cons a b =>
      rw [List.all_cons, Bool.and_eq_true] at h
      obtain ⟨k, e1, e2⟩ := isKey_of h.1 a
      obtain ⟨ks, f1, f2⟩ := isKeys_of h.2 b
      exact ⟨k :: ks, by rw [e1, f1]; rfl, by rw [e2, f2]; rfl⟩
theorem isKeyT_of {u : U} {v : V} (h : isKeyT u = true) (r : Rel K H v u) : ∃ (b : Addr) (ks : List Key), u = .tup (ks.map keyU) ∧ v = .ref b ∧ H b = some (.tup (ks.map kV)) := by
  cases r with
  | tup t rl =>
    rename_i a vs us
    have h' : us.all isKey = true ∧ ∃ x l, us = .str x :: l := by
      unfold isKeyT at h
      split at h
      · rename_i e
        injection e with e
        subst e
        exact ⟨by rw [List.all_cons, h]; rfl, _, _, rfl⟩
      · cases h
    obtain ⟨ks, e1, e2⟩ := isKeys_of h'.1 rl
    rcases t with t | ⟨⟨i, r, e⟩, _⟩
    · exact ⟨a, ks, by rw [e1], rfl, by rw [← e2]; exact t⟩
    · obtain ⟨x, l, e3⟩ := h'.2
      subst e e3
      cases rl with
      | cons a b => cases a
  | _ => cases h
theorem dfind_cons (p : U × U) (ks : List (U × U)) (k : U) : dfind (p :: ks) k = if p.1 = k then some p.2 else dfind ks k := by
  unfold dfind
  rw [List.find?_cons]
  by_cases h : p.1 = k
  · simp [h]
  · simp [h]
theorem RelK.find {kvs : List (Key × V)} {ks : List (U × U)} (h : RelK K H kvs ks) (k : Key) : (valV kvs k = none ∧ dfind ks (keyU k) = none) ∨ ∃ v u, valV kvs k = some v ∧ dfind ks (keyU k) = some u ∧ Rel K H v u := by
  unfold RelK at h
  induction h with
  | nil => exact .inl ⟨rfl, rfl⟩
  | @cons p q ps qs a _ ih =>
    rw [dfind_cons]
    by_cases e : p.1 = k
    · right
      refine ⟨p.2, q.2, valV_pos e, ?_, a.2⟩
      rw [if_pos (by rw [a.1, e])]
    · rw [valV_neg e, if_neg (fun z => e (keyU_inj (a.1.symm.trans z)))]
      exact ih
theorem RelT.find {kvs : List (List Key × V)} {ks : List (U × U)} (h : RelT K H kvs ks) (k : List Key) : (valV kvs k = none ∧ dfind ks (.tup (k.map keyU)) = none) ∨ ∃ v u, valV kvs k = some v ∧ dfind ks (.tup (k.map keyU)) = some u ∧ Rel K H v u := by
  unfold RelT at h
  induction h with
  | nil => exact .inl ⟨rfl, rfl⟩
  | @cons p q ps qs a _ ih =>
    rw [dfind_cons]
    by_cases e : p.1 = k
    · right
      refine ⟨p.2, q.2, valV_pos e, ?_, a.2⟩
      rw [if_pos (by rw [a.1, e])]
    · rw [valV_neg e, if_neg (fun z => e (keysU_inj (by
        have z2 := a.1.symm.trans z
        injection z2)))]
      exact ih
theorem Paired.app {α β : Type} {F : α → β → Prop} {xs xs' : List α} {ys ys' : List β} (h : Paired F xs ys) (k : Paired F xs' ys') : Paired F (xs ++ xs') (ys ++ ys') := by
  induction h with
  | nil => exact k
  | cons a _ ih => exact .cons a ih
theorem RelK.put {kvs : List (Key × V)} {ks : List (U × U)} (h : RelK K H kvs ks) (k : Key) {v : V} {u : U} (r : Rel K H v u) : RelK K H (putK kvs k v) (dput ks (keyU k) u) := by
  unfold putK dput
  rw [valV_any]
  have c : (valV kvs k).isSome = (dfind ks (keyU k)).isSome := by
    rcases h.find k with ⟨a, b⟩ | ⟨_, _, a, b, _⟩ <;> rw [a, b] <;> rfl
  rw [c]
  by_cases z : (dfind ks (keyU k)).isSome = true
  · rw [if_pos z, if_pos z]
    unfold RelK at h ⊢
    clear z c
    induction h with
    | nil => exact .nil
    | @cons p q ps qs a _ ih =>
      rw [List.map_cons, List.map_cons]
      refine .cons ?_ ih
      by_cases e : p.1 = k
      · rw [if_pos e, if_pos (by rw [a.1, e])]
        exact ⟨a.1, r⟩
      · rw [if_neg e, if_neg (fun z => e (keyU_inj (a.1.symm.trans z)))]
        exact a
  · rw [if_neg z, if_neg z]
    exact Paired.app h (.cons ⟨rfl, r⟩ .nil)
theorem RelT.put {kvs : List (List Key × V)} {ks : List (U × U)} (h : RelT K H kvs ks) (k : List Key) {v : V} {u : U} (r : Rel K H v u) : RelT K H (putK kvs k v) (dput ks (.tup (k.map keyU)) u) := by
  unfold putK dput
  rw [valV_any]
  have c : (valV kvs k).isSome = (dfind ks (.tup (k.map keyU))).isSome := by
    rcases h.find k with ⟨a, b⟩ | ⟨_, _, a, b, _⟩ <;> rw [a, b] <;> rfl
  rw [c]
  by_cases z : (dfind ks (.tup (k.map keyU))).isSome = true
  · rw [if_pos z, if_pos z]
    unfold RelT at h ⊢
    clear z c
    induction h with
    | nil => exact .nil
    | @cons p q ps qs a _ ih =>
      rw [List.map_cons, List.map_cons]
      refine .cons ?_ ih
      by_cases e : p.1 = k
      · rw [if_pos e, if_pos (by rw [a.1, e])]
        exact ⟨a.1, r⟩
      · rw [if_neg e, if_neg (fun z => e (keysU_inj (by
          have z2 := a.1.symm.trans z
          injection z2)))]
        exact a
  · rw [if_neg z, if_neg z]
    exact Paired.app h (.cons ⟨rfl, r⟩ .nil)
theorem RelK.len {kvs : List (Key × V)} {ks : List (U × U)} (h : RelK K H kvs ks) : kvs.length = ks.length := Paired.length h
theorem RelT.len {kvs : List (List Key × V)} {ks : List (U × U)} (h : RelT K H kvs ks) : kvs.length = ks.length := Paired.length h
theorem fz_rd {z : Bool} {a : Addr} {u : HO} (h : fz z (H a) u) : Rd H a u := by
  unfold fz at h
  cases z with
  | true => exact .inr (show ∃ ob, H a = some (.frz ob u) from h)
  | false => exact .inl h
/-- what a dict holds -/
theorem dget_of (S : Sim K H M) {p : Addr} {z t : Bool} {ks : List (U × U)} {k : U} {y : V} (hm : M p = some (.dct z t ks)) (hk : keyFor t k = true) (r : Rel K H y k) :
    ∃ o, DGet H p y o ∧ ((o = none ∧ dfind ks k = none) ∨ ∃ v u, o = some v ∧ dfind ks k = some u ∧ Rel K H v u) := by
  have q := S p _ hm
  cases t with
  | false =>
    obtain ⟨kvs, e, rk⟩ := q
    obtain ⟨key, e1, e2⟩ := isKey_of hk r
    refine ⟨valV kvs key, .inl ⟨kvs, key, fz_rd e, e2, rfl⟩, ?_⟩
    rw [e1]
    exact rk.find key
  | true =>
    obtain ⟨kvs, e, rk⟩ := q
    obtain ⟨b, key, e1, e2, e3⟩ := isKeyT_of hk r
    refine ⟨valV kvs key, .inr ⟨kvs, key, b, fz_rd e, e2, e3, rfl⟩, ?_⟩
    rw [e1]
    exact rk.find key
theorem dput_of (S : Sim K H M) {p : Addr} {t : Bool} {ks : List (U × U)} {k u : U} {y v : V} (hm : M p = some (.dct false t ks)) (hk : keyFor t k = true) (r : Rel K H y k) (rv : Rel K H v u) (hl : ks.length < LIM) :
    ∃ H', DPut H p y v H' ∧ Stp H M H' (um M p (.dct false t (dput ks k u))) ∧ Sim K H' (um M p (.dct false t (dput ks k u))) := by
  have q := S p _ hm
  cases t with
  | false =>
    obtain ⟨kvs, e, rk⟩ := q
    have e : H p = some (.dK kvs) := e
    obtain ⟨key, e1, e2⟩ := isKey_of hk r
    have st : Stp H M (upd H p (.dK (putK kvs key v))) (um M p (.dct false false (dput ks k u))) := Stp.mut hm
    refine ⟨_, .inl ⟨kvs, key, e, e2, by rw [rk.len]; exact lt_line hl, rfl⟩, st, S.mut (m := .dct false false (dput ks k u)) hm rfl ⟨_, upd_same, ?_⟩⟩
    rw [e1]
    exact RelK.put (Paired.mapR rk fun p q x => ⟨x.1, x.2.stp S st⟩) key (rv.stp S st)
  | true =>
    obtain ⟨kvs, e, rk⟩ := q
    have e : H p = some (.dT kvs) := e
    obtain ⟨b, key, e1, e2, e3⟩ := isKeyT_of hk r
    have st : Stp H M (upd H p (.dT (putK kvs key v))) (um M p (.dct false true (dput ks k u))) := Stp.mut hm
    refine ⟨_, .inr ⟨kvs, key, b, e, e2, e3, by rw [rk.len]; exact lt_line hl, rfl⟩, st, S.mut (m := .dct false true (dput ks k u)) hm rfl ⟨_, upd_same, ?_⟩⟩
    rw [e1]
    exact RelT.put (Paired.mapR rk fun p q x => ⟨x.1, x.2.stp S st⟩) key (rv.stp S st)
theorem relL_in {k : Key} : ∀ {ks : List Key} , inV (kV k) (ks.map kV) = decide (keyU k ∈ ks.map keyU)
  | [] => by simp [inV]
  | x :: xs => by
    have ih := @relL_in k xs
    unfold inV at ih ⊢
    rw [List.map_cons, List.any_cons, ih, List.map_cons]
    have e : eqV (kV x) (kV k) = decide (keyU x = keyU k) := by
      cases x <;> cases k <;> simp [kV, eqV, keyU, Bool.beq_eq_decide_eq]
    rw [e, ← Bool.decide_or]
    exact decide_eq_decide.mpr ⟨fun z => z.elim (fun e => by rw [e]; exact List.mem_cons_self) (List.mem_cons_of_mem _), fun z => (List.mem_cons.mp z).elim (fun e => .inl e.symm) .inr⟩
theorem flat_keys : ∀ ks : List Key, (ks.map kV).all flatV = true
  | [] => rfl
  | k :: ks => by rw [List.map_cons, List.all_cons, flat_keys ks]; cases k <;> rfl
end
end Pl

set_option maxHeartbeats 4000000
/-! equality of data with truth values in it (no place where a truth value stands against a number) -/
namespace Pl
open PySem L2
section
variable {K : Kw} {H : Hp}
mutual
theorem okb_dp : ∀ (n : Nat) (u : U) (v : V), u.okb n = true → Rel K H v u → Dp K H v (pd u)
  | _, .non, _, _, r => by cases r; exact .non
  | _, .bl b, _, _, r => by cases r; exact .bl b
  | _, .int i, _, _, r => by cases r; exact .int i
  | _, .str x, _, _, r => by cases r; exact .str x
  | n + 1, .tup l, _, h, r => by
    cases r with
    | tup t rl => exact .tup t.sq (okb_dpL n l _ (by simpa [U.okb] using h) rl)
  | 0, .tup l, _, h, r => by simp [U.okb] at h
  | _, .ref _, _, h, _ => by simp [U.okb] at h
  | _, .rol _, _, h, _ => by simp [U.okb] at h
  | _, .dtp _, _, h, _ => by simp [U.okb] at h
theorem okb_dpL : ∀ (n : Nat) (l : List U) (vs : List V), (∀ x ∈ l, x.okb n = true) → RelL K H vs l → DpAll K H vs (pdL l)
  | _, [], _, _, r => by cases r; exact .nil
  | n, x :: xs, _, h, r => by
    cases r with
    | cons a b => exact .cons (okb_dp n x _ (h x List.mem_cons_self) a) (okb_dpL n xs _ (fun y hy => h y (List.mem_cons_of_mem _ hy)) b)
end
end
mutual
theorem okb_lay : ∀ (n : Nat) (u : U), u.okb n = true → (pd u).canLay0 = true ∧ (pd u).depth ≤ n
  | _, .non, _ => ⟨by simp [pd, PyData.canLay0], by simp [pd, PyData.depth]⟩
  | _, .bl _, _ => ⟨by simp [pd, PyData.canLay0], by simp [pd, PyData.depth]⟩
  | _, .int i, _ => ⟨by simp [pd, PyData.canLay0], by simp [pd, PyData.depth]⟩
  | _, .str x, h => ⟨by
    have q : okS x = true := by simpa [U.okb] using h
    simp only [pd, PyData.canLay0]
    exact q, by simp [pd, PyData.depth]⟩
  | n + 1, .tup l, h => by
    obtain ⟨a, b⟩ := okb_layL n l (by simpa [U.okb] using h)
    refine ⟨?_, ?_⟩
    · simp only [pd, PyData.canLay0]; exact a
    · simp only [pd, PyData.depth]; omega
  | 0, .tup l, h => by simp [U.okb] at h
  | _, .ref _, h => by simp [U.okb] at h
  | _, .rol _, h => by simp [U.okb] at h
  | _, .dtp _, h => by simp [U.okb] at h
theorem okb_layL : ∀ (n : Nat) (l : List U), (∀ x ∈ l, x.okb n = true) → PyData.canLayAll0 (pdL l) = true ∧ PyData.depthAll (pdL l) ≤ n
  | _, [], _ => ⟨by simp [pdL, PyData.canLayAll0], by simp [pdL, PyData.depthAll]⟩
  | n, x :: xs, h => by
    obtain ⟨a, b⟩ := okb_lay n x (h x List.mem_cons_self)
    obtain ⟨c, d⟩ := okb_layL n xs (fun y hy => h y (List.mem_cons_of_mem _ hy))
    refine ⟨?_, ?_⟩
    · simp only [pdL, PyData.canLayAll0, a, c, Bool.and_self]
    · simp only [pdL, PyData.depthAll]; omega
end
mutual
theorem okb_eqv : ∀ (n : Nat) (u : U) (m : Nat) (x : U), u.okb n = true → x.okb m = true → nomix u x = true → PyData.eqv (pd u) (pd x) = decide (u = x)
  | _, .non, m, x, _, h, _ => by cases x <;> first | (simp [pd, PyData.eqv]; done) | simp [U.okb] at h
  | _, .bl b, m, x, _, h, k => by cases x <;> first | (simp [pd, PyData.eqv, Bool.beq_eq_decide_eq]; done) | (simp [nomix] at k; done) | simp [U.okb] at h
  | _, .int i, m, x, _, h, k => by cases x <;> first | (simp [nomix] at k; done) | (simp [pd, PyData.eqv, Bool.beq_eq_decide_eq]; done) | simp [U.okb] at h
  | _, .str s, m, x, _, h, _ => by cases x <;> first | (simp [pd, PyData.eqv, Bool.beq_eq_decide_eq]; done) | simp [U.okb] at h
  | n + 1, .tup l, m, x, g, h, k => by
    cases x with
    | tup l2 =>
      cases m with
      | zero => simp [U.okb] at h
      | succ m =>
        have q := okb_eqvL n l m l2 (by simpa [U.okb] using g) (by simpa [U.okb] using h) (by simpa [nomix] using k)
        simp only [pd, PyData.eqv, q, U.tup.injEq]
    | ref _ => simp [U.okb] at h
    | rol _ => simp [U.okb] at h
    | dtp _ => simp [U.okb] at h
    | _ => simp [pd, PyData.eqv]
  | 0, .tup l, _, _, h, _, _ => by simp [U.okb] at h
  | _, .ref _, _, _, h, _, _ => by simp [U.okb] at h
  | _, .rol _, _, _, h, _, _ => by simp [U.okb] at h
  | _, .dtp _, _, _, h, _, _ => by simp [U.okb] at h
theorem okb_eqvL : ∀ (n : Nat) (l : List U) (m : Nat) (l2 : List U), (∀ x ∈ l, x.okb n = true) → (∀ x ∈ l2, x.okb m = true) → nomixL l l2 = true → PyData.eqvAll (pdL l) (pdL l2) = decide (l = l2)
  | _, [], _, [], _, _, _ => by simp [pdL, PyData.eqvAll]
  | _, [], _, _ :: _, _, _, _ => by simp [pdL, PyData.eqvAll]
  | _, _ :: _, _, [], _, _, _ => by simp [pdL, PyData.eqvAll]
  | n, x :: xs, m, y :: ys, g, h, k => by
    have k2 : nomix x y = true ∧ nomixL xs ys = true := by simpa [nomixL] using k
    have a := okb_eqv n x m y (g x List.mem_cons_self) (h y List.mem_cons_self) k2.1
    have b := okb_eqvL n xs m ys (fun z hz => g z (List.mem_cons_of_mem _ hz)) (fun z hz => h z (List.mem_cons_of_mem _ hz)) k2.2
    simp only [pdL, PyData.eqvAll, a, b, List.cons.injEq, Bool.decide_and]
end
theorem okb_shaped {n : Nat} {u : U} (h : u.okb n = true) (hn : n ≤ 64) : SeqAt.shaped (pd u) = true := by
  obtain ⟨a, b⟩ := okb_lay n u h
  unfold SeqAt.shaped
  rw [a, Bool.true_and]
  exact decide_eq_true (by omega)
mutual
theorem okb_of : ∀ (n : Nat) (u : U), u.ok n = true → u.okb n = true
  | _, .non, _ => by simp [U.okb]
  | _, .int i, _ => by simp [U.okb]
  | _, .str x, h => by simpa [U.okb, U.ok] using h
  | n + 1, .tup l, h => by
    have q := okb_ofL n l (by simpa [U.ok] using h)
    simpa [U.okb] using q
  | 0, .tup l, h => by simp [U.ok] at h
  | _, .bl _, h => by simp [U.ok] at h
  | _, .ref _, h => by simp [U.ok] at h
  | _, .rol _, h => by simp [U.ok] at h
  | _, .dtp _, h => by simp [U.ok] at h
theorem okb_ofL : ∀ (n : Nat) (l : List U), (∀ x ∈ l, x.ok n = true) → ∀ x ∈ l, x.okb n = true
  | _, [], _ => fun x hx => by cases hx
  | n, x :: xs, h => fun y hy => by
    rcases List.mem_cons.mp hy with e | e
    · rw [e]; exact okb_of n x (h x List.mem_cons_self)
    · exact okb_ofL n xs (fun z hz => h z (List.mem_cons_of_mem _ hz)) y e
end
end Pl

set_option maxHeartbeats 4000000
/-! dicts whose keys are tuples within one another -/
namespace Pl
open PySem L2
mutual
theorem nk_inj : ∀ (n : Nat) (a b : U), a.okN n = true → b.okN n = true → nk a = nk b → a = b
  | _, .non, .non, _, _, _ => rfl
  | _, .int i, .int j, _, _, h => by unfold nk at h; injection h with h; rw [h]
  | _, .str i, .str j, _, _, h => by unfold nk at h; injection h with h; rw [h]
  | n + 1, .tup l, .tup m, h1, h2, h => by
    unfold nk at h
    injection h with h
    unfold U.okN at h1 h2
    rw [List.all_eq_true] at h1 h2
    rw [nkL_inj n l m h1 h2 h]
  | _, .non, .int _, _, _, h => by unfold nk at h; cases h
  | _, .non, .str _, _, _, h => by unfold nk at h; cases h
  | _, .non, .tup _, _, _, h => by unfold nk at h; cases h
  | _, .int _, .non, _, _, h => by unfold nk at h; cases h
  | _, .int _, .str _, _, _, h => by unfold nk at h; cases h
  | _, .int _, .tup _, _, _, h => by unfold nk at h; cases h
  | _, .str _, .non, _, _, h => by unfold nk at h; cases h
  | _, .str _, .int _, _, _, h => by unfold nk at h; cases h
  | _, .str _, .tup _, _, _, h => by unfold nk at h; cases h
  | _, .tup _, .non, _, _, h => by unfold nk at h; cases h
  | _, .tup _, .int _, _, _, h => by unfold nk at h; cases h
  | _, .tup _, .str _, _, _, h => by unfold nk at h; cases h
  | 0, .tup _, .tup _, h1, _, _ => by simp [U.okN] at h1
  | _, .bl _, _, h1, _, _ => by simp [U.okN] at h1
  | _, .ref _, _, h1, _, _ => by simp [U.okN] at h1
  | _, .rol _, _, h1, _, _ => by simp [U.okN] at h1
  | _, .dtp _, _, h1, _, _ => by simp [U.okN] at h1
  | _, _, .bl _, _, h1, _ => by simp [U.okN] at h1
  | _, _, .ref _, _, h1, _ => by simp [U.okN] at h1
  | _, _, .rol _, _, h1, _ => by simp [U.okN] at h1
  | _, _, .dtp _, _, h1, _ => by simp [U.okN] at h1
theorem nkL_inj : ∀ (n : Nat) (a b : List U), (∀ x ∈ a, x.okN n = true) → (∀ x ∈ b, x.okN n = true) → nkL a = nkL b → a = b
  | _, [], [], _, _, _ => rfl
  | n, x :: xs, y :: ys, h1, h2, h => by
    unfold nkL at h
    injection h with h h'
    rw [nk_inj n x y (h1 x List.mem_cons_self) (h2 y List.mem_cons_self) h, nkL_inj n xs ys (fun z hz => h1 z (List.mem_cons_of_mem _ hz)) (fun z hz => h2 z (List.mem_cons_of_mem _ hz)) h']
  | _, [], _ :: _, _, _, h => by unfold nkL at h; cases h
  | _, _ :: _, [], _, _, h => by unfold nkL at h; cases h
end
mutual
theorem nk_depth : ∀ (n : Nat) (a : U), a.okN n = true → (nk a).depth ≤ n
  | _, .non, _ => Nat.zero_le _
  | _, .int i, _ => Nat.zero_le _
  | _, .str i, _ => Nat.zero_le _
  | n + 1, .tup l, h => by
    unfold U.okN at h
    rw [List.all_eq_true] at h
    unfold nk
    show PySem.NestedKey.depthAll (nkL l) + 1 ≤ n + 1
    exact Nat.succ_le_succ (nkL_depth n l h)
  | 0, .tup _, h => by simp [U.okN] at h
  | _, .bl _, h1 => by simp [U.okN] at h1
  | _, .ref _, h1 => by simp [U.okN] at h1
  | _, .rol _, h1 => by simp [U.okN] at h1
  | _, .dtp _, h1 => by simp [U.okN] at h1
theorem nkL_depth : ∀ (n : Nat) (a : List U), (∀ x ∈ a, x.okN n = true) → PySem.NestedKey.depthAll (nkL a) ≤ n
  | _, [], _ => Nat.zero_le _
  | n, x :: xs, h1 => by
    unfold nkL
    show max (nk x).depth (PySem.NestedKey.depthAll (nkL xs)) ≤ n
    exact Nat.max_le.mpr ⟨nk_depth n x (h1 x List.mem_cons_self), nkL_depth n xs (fun z hz => h1 z (List.mem_cons_of_mem _ hz))⟩
end
section
variable {K : Kw} {H : Hp} {P : Program} {wd : World} {h : Heap}
mutual
theorem nk_is (I : HOk P wd H h) (KX : K.1.In h) : ∀ (n : Nat) (u : U) (v : V) (x : Value), u.okN n = true → Rel K H v u → RelV v x → NestedIs h (nk u) x
  | _, .non, _, x, _, r, rv => by cases r; obtain rfl : x = Value.none := rv; exact .none
  | _, .int i, _, x, _, r, rv => by cases r; obtain ⟨t, rfl⟩ := rv; exact .int _ _
  | _, .str i, _, x, _, r, rv => by cases r; obtain ⟨t, rfl⟩ := rv; exact .text _ _
  | n + 1, .tup l, _, x, ok, r, rv => by
    unfold U.okN at ok
    rw [List.all_eq_true] at ok
    cases r with
    | tup t rl =>
      obtain rfl : x = Value.ref _ := rv
      unfold nk
      rcases t with t | ⟨_, o, its, m, h1, h2, h3, _, vv⟩
      · obtain ⟨z, its, vv, o, h1, h2, m, h3⟩ := I _ _ t
        exact .tup h1 h2 h3 (nkL_is I KX n l _ _ ok rl vv)
      · exact .tup (KX _ _ h1) h2 h3 (nkL_is I KX n l _ _ ok rl vv)
  | 0, .tup _, _, _, ok, _, _ => by simp [U.okN] at ok
  | _, .bl _, _, _, ok, _, _ => by simp [U.okN] at ok
  | _, .ref _, _, _, ok, _, _ => by simp [U.okN] at ok
  | _, .rol _, _, _, ok, _, _ => by simp [U.okN] at ok
  | _, .dtp _, _, _, ok, _, _ => by simp [U.okN] at ok
theorem nkL_is (I : HOk P wd H h) (KX : K.1.In h) : ∀ (n : Nat) (us : List U) (vs : List V) (xs : List Value), (∀ x ∈ us, x.okN n = true) → RelL K H vs us → Vals vs xs → NestedAll h (nkL us) xs
  | _, [], _, _, _, r, rv => by cases r; cases rv; exact .nil
  | n, u :: us, _, _, ok, r, rv => by
    cases r with
    | cons r1 r2 =>
      cases rv with
      | cons v1 v2 => exact .cons (nk_is I KX n u _ _ (ok u List.mem_cons_self) r1 v1) (nkL_is I KX n us _ _ (fun z hz => ok z (List.mem_cons_of_mem _ hz)) r2 v2)
end
theorem keyN_ok {u : U} (h : isKeyN u = true) : u.okN 7 = true ∧ ∃ l, u = .tup l := by
  cases u <;> first | cases h | skip
  exact ⟨h, _, rfl⟩
theorem keyN_ref {u : U} {v : V} (h : isKeyN u = true) (r : Rel K H v u) : ∃ a, v = .ref a := by
  obtain ⟨_, l, rfl⟩ := keyN_ok h
  cases r
  exact ⟨_, rfl⟩
theorem keyN_is (I : HOk P wd H h) (KX : K.1.In h) {u : U} {a : Addr} (hk : isKeyN u = true) (r : Rel K H (.ref a) u) : (nestedKind P wd).is h (nk u) a :=
  ⟨nk_is I KX 7 u (.ref a) (.ref a) (keyN_ok hk).1 r rfl, Nat.le_succ_of_le (nk_depth 7 u (keyN_ok hk).1)⟩
theorem paired_append {α β : Type} {F : α → β → Prop} : ∀ {a : List α} {b : List β} {c : List α} {d : List β}, Paired F a b → Paired F c d → Paired F (a ++ c) (b ++ d)
  | _, _, _, _, .nil, h => h
  | _, _, _, _, .cons q r, h => .cons q (paired_append r h)
theorem RelN.len {xs : List NEnt} {ks : List (U × U)} (r : RelN K H xs ks) : xs.length = ks.length := Paired.length r
theorem RelN.find {xs : List NEnt} {ks : List (U × U)} (r : RelN K H xs ks) {k : U} (hk : isKeyN k = true) :
    (atKey xs (nk k) = none ∧ dfind ks k = none) ∨ ∃ q v u, atKey xs (nk k) = some q ∧ dfind ks k = some u ∧ RelV v q.2 ∧ Rel K H v u := by
  induction r with
  | nil => exact .inl ⟨rfl, rfl⟩
  | @cons q p xs ks a _ ih =>
    obtain ⟨⟨a1, a2, a3⟩, v, a4, a5⟩ := a
    have e1 : atKey (q :: xs) (nk k) = if q.1 = nk k then some q.2 else atKey xs (nk k) := by
      unfold atKey
      rw [List.find?_cons]
      by_cases h : q.1 = nk k
      · simp [h]
      · simp [h]
    rw [e1, dfind_cons]
    by_cases h : p.1 = k
    · rw [if_pos h, if_pos (by rw [a2, h])]
      exact .inr ⟨q.2, v, p.2, rfl, rfl, a4, a5⟩
    · rw [if_neg h, if_neg (fun e => h (nk_inj 7 _ _ (keyN_ok a1).1 (keyN_ok hk).1 (a2.symm.trans e)))]
      exact ih
theorem RelN.put {xs : List NEnt} {ks : List (U × U)} (r : RelN K H xs ks) {k u : U} {a : Addr} {v : V} {x : Value} (hk : isKeyN k = true) (rk : Rel K H (.ref a) k) (rv : RelV v x) (ru : Rel K H v u) : RelN K H (storedH xs (nk k) a x) (dput ks k u) := by
  have e : (atKey xs (nk k)).isSome = (dfind ks k).isSome := by
    rcases r.find hk with ⟨h1, h2⟩ | ⟨_, _, _, h1, h2, _⟩ <;> rw [h1, h2] <;> rfl
  unfold storedH dput
  rw [e]
  split
  · clear e
    induction r with
    | nil => exact .nil
    | @cons q p xs ks b _ ih =>
      obtain ⟨⟨a1, a2, a3⟩, v0, a4, a5⟩ := b
      rw [List.map_cons, List.map_cons]
      rename_i hh
      refine .cons ?_ ?_
      · by_cases h : p.1 = k
        · have h2 : q.1 = nk k := by rw [a2, h]
          unfold putAt
          rw [if_pos h, if_pos h2]
          exact ⟨⟨a1, a2, a3⟩, v, rv, ru⟩
        · have h2 : ¬ q.1 = nk k := fun e => h (nk_inj 7 _ _ (keyN_ok a1).1 (keyN_ok hk).1 (a2.symm.trans e))
          unfold putAt
          rw [if_neg h, if_neg h2]
          exact ⟨⟨a1, a2, a3⟩, v0, a4, a5⟩
      · clear ih
        rename_i rr
        clear hh
        induction rr with
        | nil => exact .nil
        | @cons q p xs ks b _ ih =>
          obtain ⟨⟨a1, a2, a3⟩, v0, a4, a5⟩ := b
          rw [List.map_cons, List.map_cons]
          refine .cons ?_ ih
          by_cases h : p.1 = k
          · have h2 : q.1 = nk k := by rw [a2, h]
            unfold putAt
            rw [if_pos h, if_pos h2]
            exact ⟨⟨a1, a2, a3⟩, v, rv, ru⟩
          · have h2 : ¬ q.1 = nk k := fun e => h (nk_inj 7 _ _ (keyN_ok a1).1 (keyN_ok hk).1 (a2.symm.trans e))
            unfold putAt
            rw [if_neg h, if_neg h2]
            exact ⟨⟨a1, a2, a3⟩, v0, a4, a5⟩
  · exact paired_append r (.cons ⟨⟨hk, rfl, rk⟩, v, rv, ru⟩ .nil)
end
section
variable {X : Cy} {pins : List (Addr × Obj)} {σ : L2.St} {H : Hp} {s : Shared} {M : Hm}
theorem dcn_of (I : L2.Inv X pins σ H s) (S : Sim (kwX X) H M) {p : Addr} {ks : List (U × U)} (hm : M p = some (.dcn ks)) :
    ∃ xs, H p = some (.ext (dcnP X.w p xs)) ∧ RelN (kwX X) H xs ks ∧ Heap.DictOfH (nestedKind X.prog X.w) s.heap p xs ∧ (p == sysModules) = false ∧ xs.length ≤ sizeLine := by
  obtain ⟨xs, e, r, hs, hz⟩ := S _ _ hm
  refine ⟨xs, e, r, ?_, hs, hz⟩
  obtain ⟨⟨o, es, ep, h1, h2, h3, h4, h5⟩, _⟩ := I.hok _ _ e
  refine ⟨o, es, ep, h1, h2, h3, h4, fun x hx => ?_, h5⟩
  have key : ∀ {xs : List NEnt} {ks : List (U × U)}, RelN (kwX X) H xs ks → ∀ x ∈ xs, (nestedKind X.prog X.w).is s.heap x.1 x.2.1 := fun r => by
    induction r with
    | nil => intro x hx; cases hx
    | cons a _ ih =>
      intro x hx
      rcases List.mem_cons.mp hx with rfl | hx
      · rw [a.1.2.1]
        exact keyN_is I.hok I.kIn a.1.1 a.1.2.2
      · exact ih x hx
  exact key r x hx
theorem dcn_ok {h : Heap} {a : Addr} {xs : List NEnt} (d : dcnP X.w a xs h) : ObjOk X.prog X.w (upd H a (.ext (dcnP X.w a xs))) h a (.ext (dcnP X.w a xs)) := by
  refine ⟨d, ?_, ?_⟩
  · obtain ⟨o, _, _, h1, _⟩ := d
    exact ⟨o, h1⟩
  · intro h1 h2 ⟨o, es, ep, g1, g2⟩ k
    exact ⟨o, es, ep, k o g1, g2⟩
variable {A : Around} {E : Value → Shared → Prop}
theorem n_in (hu : A.units + 66 < cLine) (I : L2.Inv X pins σ H s) (S : Sim (kwX X) H M) {p : Addr} {ks : List (U × U)} (hm : M p = some (.dcn ks)) {k : U} {v : V} {u : Value} (hk : isKeyN k = true) (r : Rel (kwX X) H v k) (rv : RelV v u) {Q : Value → Shared → Prop}
    (q : ∀ s', L2.Inv X pins σ H s' → Q (.bool (dfind ks k).isSome) s') : wpAny (model X.prog X.w) A (compareOp .In u (.ref p)) Q E s := by
  obtain ⟨xs, e, rn, dd, hs, hz⟩ := dcn_of I S hm
  obtain ⟨a, rfl⟩ := keyN_ref hk r
  obtain rfl : u = Value.ref a := rv
  refine wpAny_in_heap (knd := nestedKind X.prog X.w) (show (nestedKind X.prog X.w).room A.in1 from (show A.in1.units + 8 < cLine by unfold Around.in1; simp only; omega)) (keyN_is I.hok I.kIn hk r) hs dd ?_
  have e2 : (atKey xs (nk k)).isSome = (dfind ks k).isSome := by
    rcases rn.find hk with ⟨h1, h2⟩ | ⟨_, _, _, h1, h2, _⟩ <;> rw [h1, h2] <;> rfl
  rw [e2]
  exact q _ (I.tok _)
theorem n_notIn (hu : A.units + 66 < cLine) (I : L2.Inv X pins σ H s) (S : Sim (kwX X) H M) {p : Addr} {ks : List (U × U)} (hm : M p = some (.dcn ks)) {k : U} {v : V} {u : Value} (hk : isKeyN k = true) (r : Rel (kwX X) H v k) (rv : RelV v u) {Q : Value → Shared → Prop}
    (q : ∀ s', L2.Inv X pins σ H s' → Q (.bool !(dfind ks k).isSome) s') : wpAny (model X.prog X.w) A (compareOp .NotIn u (.ref p)) Q E s := by
  obtain ⟨xs, e, rn, dd, hs, hz⟩ := dcn_of I S hm
  obtain ⟨a, rfl⟩ := keyN_ref hk r
  obtain rfl : u = Value.ref a := rv
  refine PyProof.Rows.wpAny_notIn_heap (knd := nestedKind X.prog X.w) (show (nestedKind X.prog X.w).room A.in1 from (show A.in1.units + 8 < cLine by unfold Around.in1; simp only; omega)) (keyN_is I.hok I.kIn hk r) hs dd ?_
  have e2 : (atKey xs (nk k)).isSome = (dfind ks k).isSome := by
    rcases rn.find hk with ⟨h1, h2⟩ | ⟨_, _, _, h1, h2, _⟩ <;> rw [h1, h2] <;> rfl
  rw [e2]
  exact q _ (I.tok _)
theorem dcn_typeIs (I : L2.Inv X pins σ H s) (S : Sim (kwX X) H M) {p : Addr} {ks : List (U × U)} (hm : M p = some (.dcn ks)) : s.TypeIs (.ref p) "dict" := by
  obtain ⟨xs, e, rn, dd, hs, hz⟩ := dcn_of I S hm
  exact dd.typeIs
/-- list(d) -/
theorem n_list (hc : X.calm = true) (I : L2.Inv X pins σ H s) (S : Sim (kwX X) H M) {p : Addr} {ks : List (U × U)} (hm : M p = some (.dcn ks)) {Q : VK}
    (q : ∀ vs n, RelL (kwX X) H vs (ks.map (·.1)) → H n = none → Q (.ref n) (upd H n (.lst vs))) : wpAny (model X.prog X.w) X.A (call (.type "list") [.ref p]) (EP X pins σ Q) X.xe s := by
  obtain ⟨xs, e, rn, dd, hs, hz⟩ := dcn_of I S hm
  obtain ⟨o, es, ep, h1, h2, h3, h4, h5, h6⟩ := dd
  have l1 : es.size = xs.length := PySem.size_of_entries h4
  refine W.kdl_call (L2.kdl_raw hs h2 h3) (I.ok.hd hc) h1 (by omega) fun h' tk acc c' kp hl it => ?_
  have hsz : acc.toList.length = xs.length := by rw [Array.length_toList, it.1]; exact l1
  have ea : acc.toList = (xs.map (·.2.1)).map Value.ref := by
    refine List.ext_getElem? fun j => ?_
    rw [List.map_map, List.getElem?_map]
    cases hj : acc.toList[j]? with
    | none =>
      have h1 := List.getElem?_eq_none_iff.mp hj
      rw [List.getElem?_eq_none (by omega)]
      rfl
    | some v =>
      obtain ⟨en, hen, hv⟩ := it.2 j v (by rw [← Array.getElem?_toList]; exact hj)
      have qe := PySem.entry_at h4 j
      rw [hen] at qe
      cases hb : xs[j]? with
      | none => rw [hb] at qe; cases qe
      | some b =>
        rw [hb] at qe
        have e2 := Option.some.inj qe
        rw [hv, e2]
        rfl
  have hf := I.hok.fresh (Nat.le_refl s.heap.objs.size)
  have I2 : L2.Inv X pins σ (upd H s.heap.objs.size (.lst ((xs.map (·.2.1)).map V.ref))) { heap := h', gens := s.gens, drawn := s.drawn, toks := tk, os := s.os } :=
    I.laid (t' := tk) kp (Nat.le_refl _) ⟨by rw [List.length_map, List.length_map]; exact hz, acc.toList, c', by rw [ea]; exact vals_refs _, hl⟩
  refine ⟨.ref _, _, I2, rfl, q _ _ ?_ hf⟩
  have key : ∀ {xs : List NEnt} {ks : List (U × U)}, RelN (kwX X) H xs ks → RelL (kwX X) H ((xs.map (·.2.1)).map V.ref) (ks.map (·.1)) := fun r => by
    induction r with
    | nil => exact .nil
    | cons a _ ih => exact .cons a.1.2.2 ih
  exact key rn
theorem n_getItem (hu : A.units + 66 < cLine) (I : L2.Inv X pins σ H s) (S : Sim (kwX X) H M) {p : Addr} {ks : List (U × U)} (hm : M p = some (.dcn ks)) {k w : U} {v : V} {u : Value} (hk : isKeyN k = true) (r : Rel (kwX X) H v k) (rv : RelV v u) (hw : dfind ks k = some w) {Q : Value → Shared → Prop}
    (q : ∀ y y' s', L2.Inv X pins σ H s' → RelV y y' → Rel (kwX X) H y w → Q y' s') : wpAny (model X.prog X.w) A (getItem (.ref p) u) Q E s := by
  obtain ⟨xs, e, rn, dd, hs, hz⟩ := dcn_of I S hm
  obtain ⟨a, rfl⟩ := keyN_ref hk r
  obtain rfl : u = Value.ref a := rv
  rcases rn.find hk with ⟨h1, h2⟩ | ⟨q0, y, w', h1, h2, h3, h4⟩
  · rw [hw] at h2; cases h2
  · rw [hw] at h2
    cases h2
    exact wpAny_getItem_heap (knd := nestedKind X.prog X.w) (show A.in1.units + 8 < cLine by unfold Around.in1; simp only; omega) (keyN_is I.hok I.kIn hk r) dd h1 (q y _ _ (I.tok _) h3 h4)
theorem n_setItem (hu : A.units + 66 < cLine) (I : L2.Inv X pins σ H s) (S : Sim (kwX X) H M) {p : Addr} {ks : List (U × U)} (hm : M p = some (.dcn ks)) (hl : ks.length < LIM) {k w : U} {v y : V} {u x : Value} (hk : isKeyN k = true) (r : Rel (kwX X) H v k) (rv : RelV v u) (ry : RelV y x) (rw' : Rel (kwX X) H y w) {Q : Unit → Shared → Prop}
    (q : ∀ H' s', L2.Inv X pins σ H' s' → Stp H M H' (um M p (.dcn (dput ks k w))) → Sim (kwX X) H' (um M p (.dcn (dput ks k w))) → Q () s') : wpAny (model X.prog X.w) A (setItem (.ref p) u x) Q E s := by
  obtain ⟨xs, e, rn, dd, hs, hz⟩ := dcn_of I S hm
  obtain ⟨a, rfl⟩ := keyN_ref hk r
  obtain rfl : u = Value.ref a := rv
  refine wpAny_setItem_heap (knd := nestedKind X.prog X.w) (show A.in1.units + 8 < cLine by unfold Around.in1; simp only; omega) (keyN_is I.hok I.kIn hk r) dd (fun h' dd' sb => ?_) hz
  obtain ⟨o, es, ep, h1, h2, h3, h4, h5, h6⟩ := dd'
  have hd : dcnP X.w p (storedH xs (nk k) a x) h' := ⟨o, es, ep, h1, h2, h3, h4, h6⟩
  have I2 : L2.Inv X pins σ (upd H p (.ext (dcnP X.w p (storedH xs (nk k) a x)))) { heap := h', gens := s.gens, drawn := s.drawn, toks := s.toks + (nestedKind X.prog X.w).draws (nk k), os := s.os } :=
    d_write (t' := s.toks + (nestedKind X.prog X.w).draws (nk k)) I (by rw [e]; trivial) sb ⟨o, h1⟩ (dcn_ok hd)
  have st : Stp H M (upd H p (.ext (dcnP X.w p (storedH xs (nk k) a x)))) (um M p (.dcn (dput ks k w))) := Stp.mut hm
  have rn2 : RelN (kwX X) (upd H p (.ext (dcnP X.w p (storedH xs (nk k) a x)))) (storedH xs (nk k) a x) (dput ks k w) := RelN.put (Paired.mapR rn fun p q x => ⟨⟨x.1.1, x.1.2.1, x.1.2.2.stp S st⟩, x.2.elim fun v y => ⟨v, y.1, y.2.stp S st⟩⟩) hk (r.stp S st) ry (rw'.stp S st)
  have hz2 : (storedH xs (nk k) a x).length ≤ sizeLine := by
    have h1 : (dput ks k w).length ≤ ks.length + 1 := by
      unfold dput
      split
      · rw [List.length_map]; omega
      · rw [List.length_append]; exact Nat.le_refl _
    rw [rn2.len]
    have := lim_line
    omega
  exact q _ _ I2 st (S.mut (m := .dcn (dput ks k w)) hm rfl ⟨_, upd_same, rn2, hs, hz2⟩)
/-- {} -/
def tDNewN (X : Cy) : TE := fun _ H Q => ∀ p, H p = none → (p == sysModules) = false → Q (.ref p) (upd H p (.ext (dcnP X.w p [])))
theorem pe_dnewN {pos : Pos} : PE X (.Dict [] [] pos) (tDNewN X) := by
  refine ⟨fun pins s σ H Q I h => wpAny_Dict_empty ?_⟩
  obtain ⟨_, hs, _⟩ := dt_empty (P := X.prog) (w := X.w) (H := H) s.heap I.big
  have d : dcnP X.w s.heap.objs.size [] (s.heap.push { cls := .type "dict", data := .dict #[] }) := ⟨_, #[], _, Heap.get?_push_size _ rfl, ⟨rfl, rfl, rfl⟩, rfl, rfl, List.nodup_nil⟩
  refine ⟨.ref s.heap.objs.size, upd H s.heap.objs.size (.ext (dcnP X.w s.heap.objs.size [])), I.laid (t' := s.toks) (fun b o e => Heap.get?_push_of_some _ e) (Nat.le_refl _) (dcn_ok d), rfl, h _ (I.hok.fresh (Nat.le_refl _)) hs⟩
end
end Pl

set_option maxHeartbeats 4000000
namespace Pl
open PySem L2
/-- a comparison: the value is a bool -/
def asB (f : U → U → Hm → (Bool → Hm → Prop) → Prop) : U → U → Hm → QU → Prop := fun a b M Q => f a b M fun k M => Q (.bl k) M
section
variable {X : Cy}
theorem eq_case {a b : U} {M : Hm} {Q : Bool → Hm → Prop} (h : eqW a b M Q) :
    (∃ i j, a = .bl i ∧ b = .bl j ∧ Q (i == j) M) ∨ (∃ i j, a = .int i ∧ b = .int j ∧ Q (decide (i = j)) M) ∨ (∃ i j, a = .str i ∧ b = .str j ∧ Q (decide (i = j)) M) ∨
    (∃ p q us ws, a = .ref p ∧ b = .ref q ∧ M p = some (.lst us) ∧ M q = some (.lst ws) ∧ okL us = true ∧ okL ws = true ∧ Q (decide (us = ws)) M) ∨ (∃ l m, a = .tup l ∧ b = .dtp m ∧ okU (.tup l) = true ∧ okU (.tup m) = true ∧ Q (decide (l = m)) M) ∨ (okU a = true ∧ okU b = true ∧ Q (decide (a = b)) M) := by
  unfold eqW at h
  split at h
  · exact .inl ⟨_, _, rfl, rfl, h⟩
  · exact .inr (.inl ⟨_, _, rfl, rfl, h⟩)
  · exact .inr (.inr (.inl ⟨_, _, rfl, rfl, h⟩))
  · obtain ⟨us, ws, h1, h2, h3, h4, h5⟩ := h
    exact .inr (.inr (.inr (.inl ⟨_, _, us, ws, rfl, rfl, h1, h2, h3, h4, h5⟩)))
  · obtain ⟨h1, h2, h3⟩ := h
    exact .inr (.inr (.inr (.inr (.inl ⟨_, _, rfl, rfl, h1, h2, h3⟩))))
  · exact .inr (.inr (.inr (.inr (.inr h))))
theorem okL_dp {K : Kw} {H : Hp} {M : Hm} (S : Sim K H M) {p : Addr} {us : List U} (h : M p = some (.lst us)) (ok : okL us = true) : Dp K H (.ref p) (.list (pdL us)) := by
  obtain ⟨vs, e, r⟩ := S p _ h
  exact .lst (.inl (.inl e)) (ok_dpL 59 us vs (okL_all ok) r)
theorem ok_dpT {K : Kw} {H : Hp} {v : V} {l : List U} (h : okU (.tup l) = true) (r : Rel K H v (.dtp l)) : Dp K H v (pd (.tup l)) := by
  cases r with
  | dtp t rl => exact .tup t.sq (ok_dpL 59 l _ (by simpa [okU, U.ok] using h) rl)
theorem op_eqS (hu : X.A.units + 64 < cLine) : OpR X (compareOp .Eq) (R2s (kwX X) (asB eqW)) := by
  intro pins s σ H x y v u Q I rx ry h
  obtain ⟨a, b, M, Qu, S, ra, rb, hf, c⟩ := h
  rcases eq_case hf with ⟨i, j, rfl, rfl, q⟩ | ⟨i, j, rfl, rfl, q⟩ | ⟨i, j, rfl, rfl, q⟩ | ⟨p, p', us, ws, rfl, rfl, h1, h2, h3, h4, q⟩ | ⟨l, m, rfl, rfl, h1, h2, q⟩ | ⟨h1, h2, q⟩
  · cases ra; cases rb
    refine op_eq pins s σ H _ _ v u Q I rx ry ⟨rfl, ?_⟩
    rw [dec_bl]
    exact c.at_ S (.bl _) q
  · cases ra; cases rb
    refine op_eq pins s σ H _ _ v u Q I rx ry ⟨rfl, ?_⟩
    rw [dec_int, Bool.beq_eq_decide_eq]
    exact c.at_ S (.bl _) q
  · cases ra; cases rb
    refine op_eq pins s σ H _ _ v u Q I rx ry ⟨rfl, ?_⟩
    rw [dec_str, Bool.beq_eq_decide_eq]
    exact c.at_ S (.bl _) q
  · cases ra; cases rb
    refine op_eqD hu pins s σ H _ _ v u Q I rx ry ⟨_, _, okL_dp S h1 h3, okL_dp S h2 h4, okL_shaped h3, okL_shaped h4, ?_⟩
    have e : PyData.eqv (.list (pdL us)) (.list (pdL ws)) = decide (us = ws) := by
      rw [PyData.eqv]
      exact ok_eqvL 59 us 59 ws (okL_all h3) (okL_all h4)
    rw [e]
    exact c.at_ S (.bl _) q
  · refine op_eqD hu pins s σ H _ _ v u Q I rx ry ⟨_, _, ok_dp 60 _ x h1 ra, ok_dpT h2 rb, ok_shaped h1 (by decide), ok_shaped h2 (by decide), ?_⟩
    rw [ok_eqv 60 _ 60 _ h1 h2, decide_eq_decide.mpr (show U.tup l = U.tup m ↔ l = m from ⟨fun e => by injection e, fun e => by rw [e]⟩)]
    exact c.at_ S (.bl _) q
  · refine op_eqD hu pins s σ H _ _ v u Q I rx ry ⟨_, _, ok_dp 60 a x h1 ra, ok_dp 60 b y h2 rb, ok_shaped h1 (by decide), ok_shaped h2 (by decide), ?_⟩
    rw [ok_eqv 60 a 60 b h1 h2]
    exact c.at_ S (.bl _) q
theorem op_neS (hu : X.A.units + 64 < cLine) : OpR X (compareOp .NotEq) (R2s (kwX X) (asB fun x y M Q => eqW x y M fun b M => Q (!b) M)) := by
  intro pins s σ H x y v u Q I rx ry h
  obtain ⟨a, b, M, Qu, S, ra, rb, hf, c⟩ := h
  have hf : eqW a b M fun b M => Qu (.bl (!b)) M := hf
  rcases eq_case hf with ⟨i, j, rfl, rfl, q⟩ | ⟨i, j, rfl, rfl, q⟩ | ⟨i, j, rfl, rfl, q⟩ | ⟨p, p', us, ws, rfl, rfl, h1, h2, h3, h4, q⟩ | ⟨l, m, rfl, rfl, h1, h2, q⟩ | ⟨h1, h2, q⟩
  · cases ra; cases rb
    refine op_ne pins s σ H _ _ v u Q I rx ry ⟨rfl, ?_⟩
    rw [dec_bl]
    exact c.at_ S (.bl _) q
  · cases ra; cases rb
    refine op_ne pins s σ H _ _ v u Q I rx ry ⟨rfl, ?_⟩
    rw [dec_int, Bool.beq_eq_decide_eq]
    exact c.at_ S (.bl _) q
  · cases ra; cases rb
    refine op_ne pins s σ H _ _ v u Q I rx ry ⟨rfl, ?_⟩
    rw [dec_str, Bool.beq_eq_decide_eq]
    exact c.at_ S (.bl _) q
  · cases ra; cases rb
    refine op_neD hu pins s σ H _ _ v u Q I rx ry ⟨_, _, okL_dp S h1 h3, okL_dp S h2 h4, okL_shaped h3, okL_shaped h4, ?_⟩
    have e : PyData.eqv (.list (pdL us)) (.list (pdL ws)) = decide (us = ws) := by
      rw [PyData.eqv]
      exact ok_eqvL 59 us 59 ws (okL_all h3) (okL_all h4)
    rw [e]
    exact c.at_ S (.bl _) q
  · refine op_neD hu pins s σ H _ _ v u Q I rx ry ⟨_, _, ok_dp 60 _ x h1 ra, ok_dpT h2 rb, ok_shaped h1 (by decide), ok_shaped h2 (by decide), ?_⟩
    rw [ok_eqv 60 _ 60 _ h1 h2, decide_eq_decide.mpr (show U.tup l = U.tup m ↔ l = m from ⟨fun e => by injection e, fun e => by rw [e]⟩)]
    exact c.at_ S (.bl _) q
  · refine op_neD hu pins s σ H _ _ v u Q I rx ry ⟨_, _, ok_dp 60 a x h1 ra, ok_dp 60 b y h2 rb, ok_shaped h1 (by decide), ok_shaped h2 (by decide), ?_⟩
    rw [ok_eqv 60 a 60 b h1 h2]
    exact c.at_ S (.bl _) q
def rInT (K : Kw) : R2 := fun x y H Q => ∃ d ds, Dp K H x d ∧ Dp K H y (.tuple ds) ∧ SeqAt.shaped d = true ∧ SeqAt.shaped (.tuple ds) = true ∧ Q (.bl (ds.any fun z => PyData.eqv z d)) H
def rNotInT (K : Kw) : R2 := fun x y H Q => ∃ d ds, Dp K H x d ∧ Dp K H y (.tuple ds) ∧ SeqAt.shaped d = true ∧ SeqAt.shaped (.tuple ds) = true ∧ Q (.bl (!ds.any fun z => PyData.eqv z d)) H
theorem op_inT (hu : X.A.units + 65 < cLine) : OpR X (compareOp .In) (rInT (kwX X)) := by
  intro pins s σ H x y v u Q I rx ry h
  obtain ⟨d, ds, hd, he, sd, se, q⟩ := h
  obtain ⟨as, r1⟩ := Dp.reads I d x v hd rx
  obtain ⟨bs, r2⟩ := Dp.reads I (.tuple ds) y u he ry
  exact SeqAt.in_tuple_reads r2 r1 (SeqAt.canLay_of_shaped se) (SeqAt.canLay_of_shaped sd) (PyProof.Rows.room_in_shaped sd hu) ⟨.bl _, H, I, rfl, q⟩
theorem op_notInT (hu : X.A.units + 65 < cLine) : OpR X (compareOp .NotIn) (rNotInT (kwX X)) := by
  intro pins s σ H x y v u Q I rx ry h
  obtain ⟨d, ds, hd, he, sd, se, q⟩ := h
  obtain ⟨as, r1⟩ := Dp.reads I d x v hd rx
  obtain ⟨bs, r2⟩ := Dp.reads I (.tuple ds) y u he ry
  exact SeqAt.notIn_tuple_reads r2 r1 (SeqAt.canLay_of_shaped se) (SeqAt.canLay_of_shaped sd) (PyProof.Rows.room_in_shaped sd hu) ⟨.bl _, H, I, rfl, q⟩
theorem op_inS (hu : X.A.units + 66 < cLine) : OpR X (compareOp .In) (R2s (kwX X) (asB (inW false))) := by
  intro pins s σ H x y v u Q I rx ry h
  obtain ⟨a, b, M, Qu, S, ra, rb, hf, c⟩ := h
  have hf : inW false a b M fun b M => Qu (.bl b) M := hf
  unfold inW at hf
  split at hf
  · obtain ⟨h2, h3, q⟩ := hf
    refine op_inT (by omega) pins s σ H _ _ v u Q I rx ry ⟨_, _, ok_dp 60 a x h2 ra, ok_dp 60 (.tup _) y (show okU (.tup _) = true from h3) rb, ok_shaped h2 (by decide), ok_shaped (show okU (.tup _) = true from h3) (by decide), ?_⟩
    rw [any_eqv h2 _ (okL_all h3)]
    exact c.at_ S (.bl _) q
  · obtain ⟨⟨h3, h4⟩, q⟩ := hf
    cases rb with
    | dtp t r =>
      obtain ⟨ks, e1, e2⟩ := isKeys_of h3 r
      obtain ⟨k, e3, e4⟩ := isKey_of h4 ra
      subst e1 e2 e3 e4
      refine op_in_seq pins s σ H _ _ v u Q I rx ry ⟨_, _, rfl, .inr t.sq, by cases k <;> rfl, flat_keys ks, ?_⟩
      rw [if_neg (by decide), relL_in]
      rw [if_neg (by decide)] at q
      exact c.at_ S (.bl _) q
  · rcases hf with ⟨us, h1, h2, h3, q⟩ | ⟨z, t, ks, h1, h2, q⟩ | ⟨ks, h1, h2, q⟩
    · cases rb
      refine op_inD (by omega) pins s σ H _ _ v u Q I rx ry ⟨_, _, ok_dp 60 a x h2 ra, okL_dp S h1 h3, ok_shaped h2 (by decide), okL_shaped h3, ?_⟩
      rw [any_eqv h2 us (okL_all h3)]
      exact c.at_ S (.bl _) q
    · obtain ⟨o, g, q2⟩ := dget_of S h1 h2 ra
      cases rb
      obtain rfl : u = Value.ref _ := ry
      have e : o.isSome = (dfind ks a).isSome := by
        rcases q2 with ⟨e1, e2⟩ | ⟨_, _, e1, e2, _⟩ <;> rw [e1, e2] <;> rfl
      refine d_in (by omega) I g rx fun s' I' => ⟨.bl _, H, I', rfl, ?_⟩
      rw [e]
      exact c.at_ S (.bl _) q
    · cases rb
      obtain rfl : u = Value.ref _ := ry
      exact n_in (by omega) I S h1 h2 ra rx fun s' I' => ⟨.bl _, H, I', rfl, c.at_ S (.bl _) q⟩
  · obtain ⟨c0, rfl, q⟩ := hf
    cases ra
    cases rb
    refine L2.op_in_sign pins s σ H _ _ v u Q I rx ry ⟨c0, _, rfl, rfl, ?_⟩
    exact c.at_ S (.bl _) q
  · exact hf.elim
theorem op_notinS (hu : X.A.units + 66 < cLine) : OpR X (compareOp .NotIn) (R2s (kwX X) (asB (inW true))) := by
  intro pins s σ H x y v u Q I rx ry h
  obtain ⟨a, b, M, Qu, S, ra, rb, hf, c⟩ := h
  have hf : inW true a b M fun b M => Qu (.bl b) M := hf
  unfold inW at hf
  split at hf
  · obtain ⟨h2, h3, q⟩ := hf
    refine op_notInT (by omega) pins s σ H _ _ v u Q I rx ry ⟨_, _, ok_dp 60 a x h2 ra, ok_dp 60 (.tup _) y (show okU (.tup _) = true from h3) rb, ok_shaped h2 (by decide), ok_shaped (show okU (.tup _) = true from h3) (by decide), ?_⟩
    rw [any_eqv h2 _ (okL_all h3)]
    exact c.at_ S (.bl _) q
  · obtain ⟨⟨h3, h4⟩, q⟩ := hf
    cases rb with
    | dtp t r =>
      obtain ⟨ks, e1, e2⟩ := isKeys_of h3 r
      obtain ⟨k, e3, e4⟩ := isKey_of h4 ra
      subst e1 e2 e3 e4
      refine op_notIn_seq pins s σ H _ _ v u Q I rx ry ⟨_, _, rfl, .inr t.sq, by cases k <;> rfl, flat_keys ks, ?_⟩
      rw [if_pos rfl, relL_in]
      rw [if_pos rfl] at q
      exact c.at_ S (.bl _) q
  · rcases hf with ⟨us, h1, h2, h3, q⟩ | ⟨z, t, ks, h1, h2, q⟩ | ⟨ks, h1, h2, q⟩
    · cases rb
      refine op_notInD (by omega) pins s σ H _ _ v u Q I rx ry ⟨_, _, ok_dp 60 a x h2 ra, okL_dp S h1 h3, ok_shaped h2 (by decide), okL_shaped h3, ?_⟩
      rw [any_eqv h2 us (okL_all h3)]
      exact c.at_ S (.bl _) q
    · obtain ⟨o, g, q2⟩ := dget_of S h1 h2 ra
      cases rb
      obtain rfl : u = Value.ref _ := ry
      have e : o.isSome = (dfind ks a).isSome := by
        rcases q2 with ⟨e1, e2⟩ | ⟨_, _, e1, e2, _⟩ <;> rw [e1, e2] <;> rfl
      refine d_notIn (by omega) I g rx fun s' I' => ⟨.bl _, H, I', rfl, ?_⟩
      rw [e]
      exact c.at_ S (.bl _) q
    · cases rb
      obtain rfl : u = Value.ref _ := ry
      exact n_notIn (by omega) I S h1 h2 ra rx fun s' I' => ⟨.bl _, H, I', rfl, c.at_ S (.bl _) q⟩
  · obtain ⟨c0, rfl, q⟩ := hf
    cases ra
    cases rb
    refine L2.op_notIn_sign pins s σ H _ _ v u Q I rx ry ⟨c0, _, rfl, rfl, ?_⟩
    exact c.at_ S (.bl _) q
  · exact hf.elim
theorem op_cmpS (hu : X.A.units + 66 < cLine) (op : Cop) : OpR X (compareOp (copOf op)) (R2s (kwX X) (asB (cmpW op))) := by
  cases op with
  | eq => exact op_eqS (by omega)
  | ne => exact op_neS (by omega)
  | isin => exact op_inS hu
  | notin => exact op_notinS hu
  | eqb =>
    intro pins s σ H x y v u Q I rx ry h
    obtain ⟨a, b, M, Qu, S, ra, rb, ⟨h0, q⟩, c⟩ := h
    unfold okM at h0
    simp only [Bool.and_eq_true] at h0
    obtain ⟨h1, h2, h3⟩ := h0
    refine op_eqD (by omega) pins s σ H _ _ v u Q I rx ry ⟨_, _, okb_dp 60 a x h1 ra, okb_dp 60 b y h2 rb, okb_shaped h1 (by decide), okb_shaped h2 (by decide), ?_⟩
    rw [okb_eqv 60 a 60 b h1 h2 h3]
    exact c.at_ S (.bl _) q
  | neb =>
    intro pins s σ H x y v u Q I rx ry h
    obtain ⟨a, b, M, Qu, S, ra, rb, ⟨h0, q⟩, c⟩ := h
    unfold okM at h0
    simp only [Bool.and_eq_true] at h0
    obtain ⟨h1, h2, h3⟩ := h0
    refine op_neD (by omega) pins s σ H _ _ v u Q I rx ry ⟨_, _, okb_dp 60 a x h1 ra, okb_dp 60 b y h2 rb, okb_shaped h1 (by decide), okb_shaped h2 (by decide), ?_⟩
    rw [okb_eqv 60 a 60 b h1 h2 h3]
    exact c.at_ S (.bl _) q
  | lt =>
    intro pins s σ H x y v u Q I rx ry h
    obtain ⟨a, b, M, Qu, S, ra, rb, hf, c⟩ := h
    unfold asB cmpW at hf
    simp only at hf
    split at hf
    · cases ra; cases rb; exact op_lt pins s σ H _ _ v u Q I rx ry ⟨_, _, rfl, rfl, c.at_ S (.bl _) hf⟩
    · exact hf.elim
  | le =>
    intro pins s σ H x y v u Q I rx ry h
    obtain ⟨a, b, M, Qu, S, ra, rb, hf, c⟩ := h
    unfold asB cmpW at hf
    simp only at hf
    split at hf
    · cases ra; cases rb; exact op_le pins s σ H _ _ v u Q I rx ry ⟨_, _, rfl, rfl, c.at_ S (.bl _) hf⟩
    · exact hf.elim
  | gt =>
    intro pins s σ H x y v u Q I rx ry h
    obtain ⟨a, b, M, Qu, S, ra, rb, hf, c⟩ := h
    unfold asB cmpW at hf
    simp only at hf
    split at hf
    · cases ra; cases rb; exact op_gt pins s σ H _ _ v u Q I rx ry ⟨_, _, rfl, rfl, c.at_ S (.bl _) hf⟩
    · exact hf.elim
  | ge =>
    intro pins s σ H x y v u Q I rx ry h
    obtain ⟨a, b, M, Qu, S, ra, rb, hf, c⟩ := h
    unfold asB cmpW at hf
    simp only at hf
    split at hf
    · cases ra; cases rb; exact op_ge pins s σ H _ _ v u Q I rx ry ⟨_, _, rfl, rfl, c.at_ S (.bl _) hf⟩
    · exact hf.elim

/-! ### truth -/
def TrS (K : Kw) : V → Hp → (Bool → Hp → Prop) → Prop := fun x H Q => ∃ a M Qu, Sim K H M ∧ Rel K H x a ∧ truW a M Qu ∧ ContB K H M Qu Q
theorem tru_of {K : Kw} {x : V} {H : Hp} {Q : Bool → Hp → Prop} (h : TrS K x H Q) : ∃ k, TruV K x H k ∧ Q k H := by
  obtain ⟨a, M, Qu, S, r, t, c⟩ := h
  unfold truW at t
  split at t
  · cases r; exact ⟨_, rfl, c _ _ _ (Stp.refl H M) S t⟩
  · cases r; exact ⟨_, rfl, c _ _ _ (Stp.refl H M) S t⟩
  · rename_i z
    cases r
    refine ⟨_, ⟨le_line t.1, rfl⟩, ?_⟩
    have e : ((z.length : Int) != 0) = (z.length != 0) := by
      by_cases h : z.length = 0
      · rw [h]; rfl
      · have h2 : (z.length : Int) ≠ 0 := by omega
        rw [bne_iff_ne.mpr h2, bne_iff_ne.mpr h]
    rw [e]
    exact c _ _ _ (Stp.refl H M) S t.2
  · cases r; exact ⟨_, rfl, c _ _ _ (Stp.refl H M) S t⟩
  · cases r with
    | tup t1 r1 =>
      refine ⟨_, .inr (.inl ⟨_, t1.sq, rfl⟩), ?_⟩
      rw [r1.isEmpty]
      exact c _ _ _ (Stp.refl H M) S t
  · rename_i p
    cases r
    rcases t with ⟨us, h1, q⟩ | ⟨ks, h1, q⟩
    · obtain ⟨vs, e, r1⟩ := S _ _ h1
      refine ⟨_, .inl ⟨_, .inl (.inl e), rfl⟩, ?_⟩
      rw [r1.isEmpty]
      exact c _ _ _ (Stp.refl H M) S q
    · obtain ⟨kvs, e, r1⟩ := S _ _ h1
      refine ⟨_, .inr (.inr ⟨kvs, e, rfl⟩), ?_⟩
      have e2 : kvs.isEmpty = ks.isEmpty := by cases r1 <;> rfl
      rw [e2]
      exact c _ _ _ (Stp.refl H M) S q
  · exact t.elim
  · cases r with
    | dtp t1 r1 =>
      refine ⟨_, .inr (.inl ⟨_, t1.sq, rfl⟩), ?_⟩
      rw [r1.isEmpty]
      exact c _ _ _ (Stp.refl H M) S t

/-! ### subscripts -/
theorem ix_pure {K : Kw} {H : Hp} {vs : List V} {us : List U} (r : RelL K H vs us) {j : Int} {u : U} (h : atI us j = some u) : ∃ v, atI vs j = some v ∧ Rel K H v u := by
  unfold atI at h ⊢
  rw [r.length]
  cases e : ixN us.length j with
  | none => rw [e] at h; cases h
  | some k =>
    rw [e] at h
    exact r.get h
theorem ix_S (hu : X.A.units + 66 < cLine) : IxR X (R2s (kwX X) ixW) := by
  intro vl sl pins s σ H x y v u Q I rx ry h hs
  obtain ⟨a, b, M, Qu, S, ra, rb, hf, c⟩ := h
  unfold ixW at hf
  split at hf
  · obtain ⟨j, w, rfl, e, q⟩ := hf
    cases rb
    cases ra with
    | dtp t r =>
      obtain ⟨v1, e1, r1⟩ := ix_pure r e
      exact ix_tup vl sl pins s σ H _ _ v u Q I rx ry ⟨_, _, _, _, rfl, rfl, t.sq, e1, c.at_ S r1 q⟩ hs
  · obtain ⟨j, w, rfl, e, q⟩ := hf
    cases rb
    cases ra with
    | tup t r =>
      obtain ⟨v1, e1, r1⟩ := ix_pure r e
      exact ix_tup vl sl pins s σ H _ _ v u Q I rx ry ⟨_, _, _, _, rfl, rfl, t.sq, e1, c.at_ S r1 q⟩ hs
  · rcases hf with ⟨us, j, w, h1, rfl, e, q⟩ | ⟨z, t, ks, w, h1, h2, e, q⟩ | ⟨ks, w, h1, h2, e, q⟩
    · cases rb
      cases ra
      obtain ⟨vs, e2, r⟩ := S _ _ h1
      obtain ⟨v1, e1, r1⟩ := ix_pure r e
      exact ix_list vl sl pins s σ H _ _ v u Q I rx ry ⟨_, _, _, _, rfl, rfl, .inl (.inl e2), e1, c.at_ S r1 q⟩ hs
    · obtain ⟨o, g, q2⟩ := dget_of S h1 h2 rb
      cases ra
      obtain rfl : v = Value.ref _ := rx
      rcases q2 with ⟨_, e2⟩ | ⟨v1, u1, e1, e2, r1⟩
      · rw [e] at e2; cases e2
      · rw [e] at e2
        cases e2
        subst e1
        exact PyProof.Rows.tail_any (dict_typeIs I g) PySem.F.slot_dict_getitem.lookup (d_getItem (by omega) I g ry fun w' s' I' rw' => ⟨_, H, I', rw', c.at_ S r1 q⟩) hs
    · cases ra
      obtain rfl : v = Value.ref _ := rx
      exact PyProof.Rows.tail_any (dcn_typeIs I S h1) PySem.F.slot_dict_getitem.lookup (n_getItem (by omega) I S h1 h2 rb ry e fun y y' s' I' ry' r' => ⟨y, H, I', ry', c.at_ S r' q⟩) hs
  · obtain ⟨j, cc, rfl, hl, e, q⟩ := hf
    cases ra; cases rb
    exact ix_str vl sl pins s σ H _ _ v u Q I rx ry ⟨_, _, _, rfl, rfl, le_line hl, e, c.at_ S (.str _) q⟩ hs
  · exact hf.elim
end
end Pl

set_option maxHeartbeats 400000
/-! sorted, over data -/
namespace Pl
open PySem L2
mutual
theorem reads_pd : ∀ (n : Nat) (u : U) (h : Heap) (v : Value) (as : List Addr), u.ok n = true → Reads h v (pd u) as → as = []
  | _, .non, _, _, _, _, r => by unfold pd at r; cases r; rfl
  | _, .int i, _, _, _, _, r => by unfold pd at r; cases r; rfl
  | _, .str x, _, _, _, _, r => by unfold pd at r; cases r; rfl
  | n + 1, .tup l, h, _, _, ok, r => by
    unfold pd at r
    cases r with
    | tuple a b c d => exact reads_pdL n l h _ _ (by simpa [U.ok] using ok) d
  | 0, .tup l, _, _, _, ok, _ => by simp [U.ok] at ok
  | _, .bl _, _, _, _, ok, _ => by simp [U.ok] at ok
  | _, .ref _, _, _, _, ok, _ => by simp [U.ok] at ok
  | _, .rol _, _, _, _, ok, _ => by simp [U.ok] at ok
  | _, .dtp _, _, _, _, ok, _ => by simp [U.ok] at ok
theorem reads_pdL : ∀ (n : Nat) (l : List U) (h : Heap) (vs : List Value) (as : List Addr), (∀ x ∈ l, x.ok n = true) → ReadsAll h vs (pdL l) as → as = []
  | _, [], _, _, _, _, r => by unfold pdL at r; cases r; rfl
  | n, x :: xs, h, _, _, ok, r => by
    unfold pdL at r
    cases r with
    | cons a b => rw [reads_pd n x h _ _ (ok x List.mem_cons_self) a, reads_pdL n xs h _ _ (fun y hy => ok y (List.mem_cons_of_mem _ hy)) b]; rfl
end
theorem relK_keys {K : Kw} {H : Hp} : ∀ {kvs : List (Key × V)} {ks : List (U × U)}, RelK K H kvs ks → RelL K H (kvs.map fun kv => kV kv.1) (ks.map (·.1))
  | [], _, r => by unfold RelK at r; cases r; exact .nil
  | (k, v) :: kvs, _, r => by
    unfold RelK at r
    cases r with
    | @cons p q ps qs a b =>
      rw [List.map_cons, List.map_cons]
      refine .cons ?_ (relK_keys b)
      rw [a.1]
      cases k with
      | inl i => exact .int i
      | inr x => exact .str x
theorem relL_keys {K : Kw} {H : Hp} : ∀ k : List Key, RelL K H (k.map kV) (k.map keyU)
  | [] => .nil
  | .inl i :: r => .cons (.int i) (relL_keys r)
  | .inr i :: r => .cons (.str i) (relL_keys r)
/-- a call by values -/
def CRs (K : Kw) (g : List U → Hm → QU → Prop) : List V → Hp → VK → Prop := fun xs H Q => ∃ us M Qu, Sim K H M ∧ RelL K H xs us ∧ g us M Qu ∧ Cont K H M Qu Q
theorem paired_get {α β : Type} {F : α → β → Prop} : ∀ {as : List α} {bs : List β} {i : Nat} {a : α}, Paired F as bs → as[i]? = some a → ∃ b, bs[i]? = some b ∧ F a b
  | _, _, i, _, .nil, h => by simp at h
  | _, _, 0, _, .cons q _, h => ⟨_, rfl, by simp at h; rw [← h]; exact q⟩
  | _, _, i + 1, _, .cons _ r, h => by
    obtain ⟨b, e, q⟩ := paired_get r (by simpa using h)
    exact ⟨b, by simpa using e, q⟩
section
variable {X : Cy} {pins : List (Addr × Obj)} {σ : L2.St} {H : Hp} {s : Shared} {Q : VK} {M : Hm} {Qu : QU}
theorem each_of {us : List Value} {vs : List V} (r : Vals vs us) : ∀ {ws : List U}, vs.length = ws.length → W.EachIs (fun u (b : V × U) => RelV b.1 u) us (vs.zip ws) := by
  induction r with
  | nil => intro ws h; exact .nil
  | cons a _ ih =>
    intro ws h
    cases ws with
    | nil => cases h
    | cons w ws => exact .cons a (ih (by simpa using h))
theorem each_rev {us : List Value} {bs : List (V × U)} (r : W.EachIs (fun u (b : V × U) => RelV b.1 u) us bs) : Vals (bs.map (·.1)) us := by
  induction r with
  | nil => exact .nil
  | cons a _ ih => exact .cons a ih
theorem relL_zip {K : Kw} : ∀ {vs : List V} {ws : List U}, RelL K H vs ws → ∀ b ∈ vs.zip ws, Rel K H b.1 b.2 := by
  intro vs ws r
  induction vs generalizing ws with
  | nil => intro b hb; cases hb
  | cons v vs ih =>
    cases r with
    | cons a r =>
      intro b hb
      rw [List.zip_cons_cons] at hb
      rcases List.mem_cons.mp hb with e | hb
      · subst e; exact a
      · exact ih r b hb
theorem relL_of_all {K : Kw} : ∀ {bs : List (V × U)}, (∀ b ∈ bs, Rel K H b.1 b.2) → RelL K H (bs.map (·.1)) (bs.map (·.2))
  | [], _ => .nil
  | b :: bs, h => .cons (h b List.mem_cons_self) (relL_of_all fun c hc => h c (List.mem_cons_of_mem _ hc))
theorem each_reads (I : L2.Inv X pins σ H s) {h' : Heap} (hk : ∀ b o, s.heap.get? b = some o → h'.get? b = some o) (a0 : Addr) {us : List Value} {bs : List (V × U)} (e1 : W.EachIs (fun u (b : V × U) => RelV b.1 u) us bs) (dp : ∀ b ∈ bs, Rel (kwX X) H b.1 b.2) (okz : ∀ b ∈ bs, b.2.ok 59 = true) :
    W.EachIs (fun v (b : V × U) => ∃ as, Reads h' v (pd b.2) as ∧ ¬ a0 ∈ as) us bs := by
  induction e1 with
  | nil => exact .nil
  | @cons u b us' bs' a _ ih =>
    refine .cons ?_ (ih (fun b hb => dp b (List.mem_cons_of_mem _ hb)) (fun b hb => okz b (List.mem_cons_of_mem _ hb)))
    have hd := ok_dp 59 b.2 b.1 (okz b List.mem_cons_self) (dp b List.mem_cons_self)
    obtain ⟨as, hr⟩ := hd.reads I _ _ _ a
    have h0 := reads_pd 59 b.2 _ _ _ (okz b List.mem_cons_self) hr
    subst h0
    exact ⟨[], PyProof.Rows.Reads.keeps hk hr, List.not_mem_nil⟩
theorem sort_tail (I : L2.Inv X pins σ H s) (hu : X.A.units + 66 < cLine) (S : Sim (kwX X) H M) (c : Cont (kwX X) H M Qu Q) {vs : List V} {us : List Value} {ws : List U} (rv : Vals vs us) (rl : RelL (kwX X) H vs ws) (ok : sortOk ws) (hq : ∀ a, M a = none → Qu (.ref a) (um M a (.lst (sortU ws))))
    {h1 : Heap} {tk : Nat} (hk : ∀ (b : Addr) (u : Obj), s.heap.get? b = some u → h1.get? b = some u) :
    wpAny (model X.prog X.w) X.A.in1 (newList us >>= fun l => holding [l] (call (.builtin "list.sort") [l]) >>= fun _ => PySem.ret l) (fun fin s' => ∃ v, fin = Fin.done (Flow.ret v) ∧ EP X pins σ Q v s') X.xe ⟨h1, s.gens, s.drawn, tk, s.os⟩ := by
  obtain ⟨ok1, ok2, ok3, ok4⟩ := ok
  have okA : ∀ x ∈ ws, x.ok 59 = true := List.all_eq_true.mp ok1
  have I1 : L2.Inv X pins σ H ⟨h1, s.gens, s.drawn, tk, s.os⟩ := I.kept hk
  have el : vs.length = ws.length := rl.length
  have e1 : W.EachIs (fun u (b : V × U) => RelV b.1 u) us (vs.zip ws) := each_of rv el
  have eu : us.length = ws.length := by rw [e1.length, List.length_zip, el, Nat.min_self]
  have esnd : (vs.zip ws).map (fun b => pd b.2) = ws.map pd := by
    rw [show (fun b : V × U => pd b.2) = pd ∘ Prod.snd from rfl, ← List.map_map, List.map_snd_zip (by omega)]
  have hL : us.length ≤ sizeLine := by rw [eu, sizeLine_eq]; unfold LIM at ok4; omega
  refine wpAny_bind (wpAny_newList ?_ hL)
  have hoL : (h1.push (PyProof.Rows.seqObj "list" us.toArray 0)).get? h1.objs.size = some (PyProof.Rows.seqObj "list" us.toArray 0) := Heap.get?_push_size h1 rfl
  refine wpAny_bind (wpAny_holding (W.list_sort_data (n := 0) (bs := vs.zip ws) (enc := fun b => pd b.2) (R := fun u b => RelV b.1 u) hoL e1 ?_ (by rw [esnd]; exact ok2) (by rw [esnd]; exact ok3) (by rw [← e1.length]; exact hL) ?_ ?_))
  · exact each_reads I1 (fun b o e => Heap.get?_push_of_some _ e) _ e1 (relL_zip rl) (fun b hb => okA _ (List.of_mem_zip hb).2)
  · intro b hb
    have := (ok_lay 59 b.2 (okA _ (List.of_mem_zip hb).2)).2
    show X.A.units + 1 + 1 + _ < _
    omega
  · intro out hlen heach
    obtain ⟨e', he'⟩ := PyProof.Rows.sortedHeap_at (out := out.toArray) hoL
    have hs : ((vs.zip ws).mergeSort (W.dataLe false fun b => pd b.2)).map Prod.snd = sortU ws := by
      have := W.sort_maps (r := W.dataLe false fun b : V × U => pd b.2) (s := W.dataLe false pd) Prod.snd (l := vs.zip ws) (fun a _ b _ => rfl)
      rw [this, List.map_snd_zip (by omega)]
      rfl
    have hrel : RelL (kwX X) H (((vs.zip ws).mergeSort (W.dataLe false fun b => pd b.2)).map Prod.fst) (sortU ws) := by
      rw [← hs]
      exact relL_of_all fun b hb => relL_zip rl b (List.mem_mergeSort.mp hb)
    have hout := each_rev heach
    refine wpAny_pure ⟨_, rfl, V.ref h1.objs.size, upd H h1.objs.size (.lst (((vs.zip ws).mergeSort (W.dataLe false fun b => pd b.2)).map Prod.fst)), ?_, rfl, c.lst S hrel hq (I1.hok.fresh (Nat.le_refl _))⟩
    refine I1.laid (fun b u e => ?_) (Nat.le_refl _) ⟨?_, out, e', hout, he'⟩
    · have hb := Heap.lt_size e
      rw [PyProof.Rows.sortedHeap_old (Nat.ne_of_lt hb) (by rw [PyProof.Rows.size_push']; exact Nat.lt_succ_of_lt hb)]
      exact Heap.get?_push_of_some _ e
    · rw [hrel.length]
      unfold sortU
      rw [List.length_mergeSort, ← eu]
      exact hL
theorem vals1R {K : Kw} {H : Hp} {xs : List V} {u : U} (r : RelL K H xs [u]) : ∃ v, xs = [v] ∧ Rel K H v u := by
  cases r with
  | cons a b => cases b; exact ⟨_, rfl, a⟩
theorem vals_pt : ∀ {as : List V} {us : List Value}, as.length = us.length → (∀ (j : Nat) (a : V) (u : Value), as[j]? = some a → us[j]? = some u → RelV a u) → Vals as us
  | [], [], _, _ => .nil
  | a :: as, u :: us, h, p => .cons (p 0 a u rfl rfl) (vals_pt (by simpa using h) fun j a' u' h1 h2 => p (j + 1) a' u' (by simpa using h1) (by simpa using h2))
  | [], _ :: _, h, _ => by cases h
  | _ :: _, [], h, _ => by cases h
theorem relT_keys {K : Kw} {H : Hp} : ∀ {kvs : List (List Key × V)} {xs : List (List Key × Addr × Value)} {ks : List (U × U)}, KT H kvs xs → RelT K H kvs ks → RelL K H (xs.map fun x => V.ref x.2.1) (ks.map (·.1))
  | [], _, _, k, r => by unfold RelT at r; cases k; cases r; exact .nil
  | (k, v) :: kvs, _, _, kt, r => by
    unfold RelT at r
    cases kt with
    | cons a b => cases r with
      | @cons p q ps qs c d =>
        rw [List.map_cons, List.map_cons]
        refine .cons ?_ (relT_keys b d)
        rw [c.1]
        exact .tup (.inl a.2.1) (relL_keys k)
theorem relN_keys {K : Kw} {H : Hp} : ∀ {xs : List NEnt} {ks : List (U × U)}, RelN K H xs ks → RelL K H (xs.map fun x => V.ref x.2.1) (ks.map (·.1))
  | [], _, r => by cases r; exact .nil
  | x :: xs, _, r => by
    cases r with
    | cons a b => exact .cons a.1.2.2 (relN_keys b)
theorem cr_sortedS (hc : X.calm = true) (hu : X.A.units + 66 < cLine) : CallR X (.builtin "sorted") (CRs (kwX X) (bltW .sorted)) := by
  intro pins s σ H xs us Q I r h
  obtain ⟨as, M, Qu, S, ra, hf, c⟩ := h
  unfold bltW at hf
  split at hf <;> first | (rename_i e; cases e; done) | skip
  · obtain ⟨v, rfl, rv⟩ := vals1R ra
    cases rv
    rename_i p _
    obtain ⟨u, rfl, ru⟩ := vals1 r
    have eu : u = Value.ref p := ru
    subst eu
    refine Calls.call_function_entry PyProof.Rows.kind_sorted PyProof.Rows.plain_sorted PyProof.Rows.entry_sorted (PyProof.Rows.args_sorted1 _) ?_
    refine wpAny_bind (wpAny_pure (wpAny_bind ?_))
    rcases hf with ⟨ws, h1, ok, q⟩ | ⟨t, ks, h1, ok, q⟩ | ⟨ks, h1, ok, q⟩
    · obtain ⟨vs, e, rl⟩ := S _ _ h1
      have ob := I.hok _ _ e
      simp only [ObjOk] at ob
      obtain ⟨hlen, its, x, vals, get⟩ := ob
      have hl : its.length ≤ sizeLine := by rw [← vals.length]; exact hlen
      refine PyProof.Rows.collect_list (vs := its) ⟨_, get, rfl, _, rfl⟩ ?_ hl
      exact sort_tail I hu S c vals rl ok q fun b o e => by
        rw [Heap.get?_update_ne _ _ _ _ (Nat.ne_of_lt (Heap.lt_size e))]
        exact Heap.get?_push_of_some _ e
    · have q0 := S _ _ h1
      cases t with
      | false =>
        obtain ⟨kvs, e, rl⟩ := q0
        obtain ⟨z, lo, vs, rel, dd⟩ := dk_rd I.hok (.inl e)
        obtain ⟨ep, hat⟩ := dd.dictAt
        have el : vs.length = kvs.length := (Paired.length rel).symm
        refine W.kdu_collect (W.kdl_dict lo) (I.ok.hd hc) hat (by rw [el]; exact z) fun h' tk acc hk hacc => ?_
        refine sort_tail I hu S c (vals_pt (as := kvs.map fun kv => kV kv.1) ?_ fun j a u ha hu' => ?_) (relK_keys rl) ok q hk
        · have h5 := hacc.1
          show (kvs.map _).length = acc.toList.length
          rw [List.length_map, ← el, ← h5]
          exact Array.length_toList.symm
        · rw [Array.getElem?_toList] at hu'
          obtain ⟨k, x, e1, e2⟩ := hacc.2 j u hu'
          rw [List.getElem?_map] at ha
          cases h2 : kvs[j]? with
          | none => rw [h2] at ha; cases ha
          | some kv =>
            rw [h2] at ha
            cases ha
            obtain ⟨kv', h3, h4⟩ := paired_get rel h2
            rw [h3] at e1
            cases e1
            show RelV (kV kv.1) u
            rw [h4.1]
            cases k with
            | inl i =>
              obtain ⟨t, et⟩ := Value.isInt_shape e2
              exact ⟨t, et⟩
            | inr x =>
              obtain ⟨t, et⟩ := Value.isStrOf_shape e2
              exact ⟨t, et⟩
      | true =>
        obtain ⟨kvs, e, rl⟩ := q0
        obtain ⟨z, lo, xs, rel, o, es, ep, g1, g2, g3, g4, g5, g6⟩ := dt_rd I.hok (.inl e)
        have el : xs.length = kvs.length := (Paired.length rel).symm
        have esl : es.size = xs.length := by rw [← Array.length_toList, g4, List.length_map]
        refine W.kdu_collect (PySem.KdlSrc.rawDict (es := es) (ep := ep) lo) (I.ok.hd hc) ⟨o, g1, g2, g3⟩ (by rw [esl, el]; exact z) fun h' tk acc hk hacc => ?_
        refine sort_tail I hu S c (vals_pt (as := xs.map fun x => V.ref x.2.1) ?_ fun j a u ha hu' => ?_) (relT_keys rel rl) ok q hk
        · have h5 := hacc.1
          show (xs.map _).length = acc.toList.length
          rw [List.length_map, ← esl, ← h5]
          exact Array.length_toList.symm
        · rw [Array.getElem?_toList] at hu'
          obtain ⟨hi, e1⟩ := hacc.2 j u hu'
          rw [List.getElem?_map] at ha
          cases h2 : xs[j]? with
          | none => rw [h2] at ha; cases ha
          | some x =>
            rw [h2] at ha
            cases ha
            have e3 : es.toList[j]? = some (entryOfKey (tupleKind (mixKind X.prog X.w)) x) := by rw [g4, List.getElem?_map, h2]; rfl
            rw [Array.getElem?_toList, Array.getElem?_eq_getElem hi] at e3
            rw [e1, Option.some.inj e3]
            rfl
    · obtain ⟨xs, e, rn, ⟨o, es, ep, g1, g2, g3, g4, g5, g6⟩, lo, z⟩ := dcn_of I S h1
      have esl : es.size = xs.length := PySem.size_of_entries g4
      refine W.kdu_collect (PySem.KdlSrc.rawDict (es := es) (ep := ep) lo) (I.ok.hd hc) ⟨o, g1, g2, g3⟩ (by rw [esl]; exact z) fun h' tk acc hk hacc => ?_
      refine sort_tail I hu S c (vals_pt (as := xs.map fun x => V.ref x.2.1) ?_ fun j a u ha hu' => ?_) (relN_keys rn) ok q hk
      · have h5 := hacc.1
        show (xs.map _).length = acc.toList.length
        rw [List.length_map, ← esl, ← h5]
        exact Array.length_toList.symm
      · rw [Array.getElem?_toList] at hu'
        obtain ⟨hi, e1⟩ := hacc.2 j u hu'
        rw [List.getElem?_map] at ha
        cases h2 : xs[j]? with
        | none => rw [h2] at ha; cases ha
        | some x =>
          rw [h2] at ha
          cases ha
          have qe := PySem.entry_at g4 j
          rw [Array.getElem?_eq_getElem hi, h2] at qe
          rw [e1, Option.some.inj qe]
          rfl
  · exact hf.elim
end
end Pl

set_option maxHeartbeats 3200000
/-! sorted(set(t)), t a tuple of texts -/
namespace Pl
open PySem L2
/-- a set of texts that can be walked -/
def TxS (P : Program) (w : World) (h : Heap) (a : Addr) (l : List Str) : Prop :=
  ∃ D : Froz.SD, h.get? a = some (Froz.sObj "set" D) ∧ Froz.TxOk P w D l ∧ l.Nodup ∧ Ris D.2.2.place.toList ∧ (w.params.followText "set-order" = true ∨ D.2.2.led = true)
section
variable {P : Program} {w : World} {A : Around} {E : Value → Shared → Prop} {s : Shared}
theorem TxS.at_ {h h' : Heap} {a : Addr} {l : List Str} (R : TxS P w h a l) (k : ∀ o, h.get? a = some o → h'.get? a = some o) : TxS P w h' a l := by
  obtain ⟨D, e, r⟩ := R
  exact ⟨D, k _ e, r⟩
theorem tail_ris {ep : Nat} {es : Array (Int × Value)} {t : SetTable} {b : Bool} (r : Ris t.place.toList) : Ris (Froz.tailTx ep es t b).2.2.place.toList := by
  unfold Froz.tailTx
  by_cases c : (!b && t.tooFull) = true
  · rw [if_pos c]; exact relayAll_ris _ _ _
  · rw [if_neg c]; exact r
theorem tail_led {ep : Nat} {es : Array (Int × Value)} {t : SetTable} {b : Bool} : (Froz.tailTx ep es t b).2.2.led = t.led := by
  unfold Froz.tailTx
  by_cases c : (!b && t.tooFull) = true
  · rw [if_pos c]; exact relayAll_led _ _ _
  · rw [if_neg c]
theorem addTx_ris {h : Int} {v : Value} {D : Froz.SD} (r : Ris D.2.2.place.toList) : Ris (Froz.addTx h v D).2.2.place.toList := by
  unfold Froz.addTx
  refine tail_ris ?_
  split
  · exact layNew_ris _ _ _ _ r
  · exact layNew_ris _ _ _ _ r
theorem addTx_led {h : Int} {v : Value} {D : Froz.SD} : (Froz.addTx h v D).2.2.led = D.2.2.led := by
  unfold Froz.addTx
  rw [tail_led]
  split
  · exact layNew_led _ _ _ _
  · exact layNew_led _ _ _ _
/-- an add of a text that is there -/
theorem same_x {a : Addr} {D : Froz.SD} {l : List Str} {k : Str} {u : Tok} {Q : Bool → Shared → Prop} (ho : s.heap.get? a = some (Froz.sObj "set" D)) (F : Froz.TxOk P w D l) (hk : k ∈ l) (hb : l.length < scanBound)
    (q : Q false s) : wpAny (model P w) A (setAddHashed a (.str k u) (hashStr w k)) Q E s := by
  obtain ⟨es, ep, t⟩ := D
  have szE : es.size < scanBound := Nat.lt_of_le_of_lt (Nat.le_of_eq F.sz) hb
  unfold setAddHashed setAddHashedIn
  refine wpAny_holding (wpAny_bind (wpAny_setState_of (es := es) (ep := ep) (t := t) ho rfl F.fit ?_))
  dsimp only
  rw [byScan_of (knd := strKind P w) (x := .str k u) rfl szE F.el]
  simp only [↓reduceIte]
  unfold setAddByScan
  refine wpAny_bind (wpAny_bind (wpAny_rule ?_))
  refine wpAny_bind (wpAny_setScan_of (knd := strKind P w) (k := k) (Froz.is_str k u) (es := es) (ep := ep) (t := t) ho rfl F.fit F.el ?_)
  cases ef : List.findIdx? (fun e => (strKind P w).is k e.2) es.toList with
  | some j =>
    dsimp only
    exact wpAny_pure (wpAny_pure q)
  | none =>
    obtain ⟨e, he, z⟩ := (F.mem k).mp hk
    have := List.findIdx?_eq_none_iff.mp ef e he
    rw [z] at this
    cases this
theorem txs_add {a : Addr} {l : List Str} {k : Str} {u : Tok} {Q : Bool → Shared → Prop} (R : TxS P w s.heap a l) (hb : l.length + 1 < scanBound)
    (hq : ∀ h' l', Heap.SameBut a s.heap h' → TxS P w h' a l' → (∀ x, x ∈ l' ↔ x ∈ l ∨ x = k) → l'.length ≤ l.length + 1 → Q (decide (k ∉ l)) { s with heap := h' }) :
    wpAny (model P w) A (setAddHashed a (.str k u) (hashStr w k)) Q E s := by
  obtain ⟨D, ho, F, nd, r, led⟩ := R
  by_cases hk : k ∈ l
  · refine same_x ho F hk (by omega) ?_
    have := hq s.heap l (Heap.SameBut.refl a s.heap) ⟨D, ho, F, nd, r, led⟩ (fun x => ⟨.inl, fun z => z.elim id fun e => by rw [e]; exact hk⟩) (Nat.le_succ _)
    rw [decide_eq_false (fun z => z hk)] at this
    exact this
  · refine Froz.add_x ho F hk hb ?_
    have := hq _ (k :: l) (Heap.SameBut.update s.heap a _) ⟨_, Froz.get_upd _ ho rfl, Froz.add_ok u F, List.nodup_cons.mpr ⟨hk, nd⟩, addTx_ris r, by rw [addTx_led]; exact led⟩ (fun x => by rw [List.mem_cons]; exact Or.comm) (by simp)
    rw [decide_eq_true hk] at this
    exact this
/-- the new set -/
abbrev set0 (w : World) : Obj := { cls := .type "set", dict := none, data := .set #[] 0 (.fresh 0 0 (!w.params.followText "set-order")) }
theorem txs_new {h : Heap} {a : Addr} (e : h.get? a = some (set0 w)) : TxS P w h a [] := by
  refine ⟨(#[], 0, .fresh 0 0 (!w.params.followText "set-order")), e, Froz.TxOk.nil rfl, List.nodup_nil, List.Pairwise.nil, ?_⟩
  cases z : w.params.followText "set-order" with
  | true => exact .inl rfl
  | false => exact .inr rfl
theorem update_txs {I : Addr} {fp wr : List Addr} {G : Array GenState → Array GenState → Prop} {n : Nat} {Pv : Nat → Value → Prop} {St : Nat → Shared → Prop} {R : Result → Shared → Prop} (W : PySem.WalksS P w A.in1 I fp wr G n Pv St)
    {a : Addr} (ha : a ∉ fp) (xs : List Str) (en : n = xs.length) (room : xs.length + 1 < scanBound) (texts : ∀ i v, Pv i v → ∃ x t, xs[i]? = some x ∧ v = .str x t) :
    ∀ (m i : Nat) (s : Shared), i + m = n → St i s → (∃ l, TxS P w s.heap a l ∧ (∀ x, x ∈ l ↔ x ∈ xs.take i) ∧ l.length ≤ i) →
      (∀ s' l, PySem.Moved (a :: wr) G s s' → TxS P w s'.heap a l → (∀ x, x ∈ l ↔ x ∈ xs) → l.length ≤ n → R (.ok (.ret .none)) s') →
      codeAny (model P w) A (.builtin "set.update.loop" ⟨[.ref a, .ref I], []⟩) R s
  | 0, i, s, hm, st, ⟨l, T, ml, ll⟩, fin => by
    have ei : i = n := hm
    subst ei
    refine codeAny_builtin PyProof.Rows.F.entry_set_update_loop ?_
    rw [Around.under_plainId PyProof.Rows.F.plain_set_update_loop _]
    refine wpAny_bind (m := pyNext (.ref I)) (W.done s _ _ st fun s1 mv => ?_)
    refine wpAny_pure (fin s1 l (mv.mono fun b hb => List.mem_cons_of_mem _ hb) (T.at_ fun o e => mv.heap a o (fun z => ha (W.sub _ z)) e) (fun x => ?_) ll)
    rw [ml x, List.take_of_length_le (by omega)]
  | m + 1, i, s, hm, st, ⟨l, T, ml, ll⟩, fin => by
    refine codeAny_builtin PyProof.Rows.F.entry_set_update_loop ?_
    rw [Around.under_plainId PyProof.Rows.F.plain_set_update_loop _]
    refine wpAny_bind (m := pyNext (.ref I)) (W.item i s _ _ (by omega) st fun v s1 pv st1 mv => ?_)
    obtain ⟨x, t, hx, rfl⟩ := texts i v pv
    have T1 : TxS P w s1.heap a l := T.at_ fun o e => mv.heap a o (fun z => ha (W.sub _ z)) e
    refine wpAny_bind (m := holding [Value.str x t] (setAdd a (.str x t))) (wpAny_holding ?_)
    unfold setAdd
    refine wpAny_holding (wpAny_bind ((strKind P w).pyHash (k := x) (Froz.is_str x t) ?_))
    refine txs_add (s := { s1 with toks := s1.toks + 1 }) T1 (by omega) fun h2 l2 sb T2 m2 ll2 => ?_
    refine wpAny_pure ⟨plainId_quiet PyProof.Rows.F.plain_set_update_loop _, update_txs W ha xs en room texts m (i + 1) _ (by omega) (W.frame _ s1 _ _ st1 (Nat.le_succ _) fun b hb o e => ?_) ⟨l2, T2, fun y => ?_, by omega⟩ fun s3 l3 mv3 T3 m3 ll3 => ?_⟩
    · rw [sb.2 b fun z => ha (by rw [← z]; exact hb)]
      exact e
    · rw [m2 y, ml y, List.take_add_one, hx]
      simp
    · refine fin s3 l3 (PySem.Moved.trans W.gtrans ((mv.mono fun b hb => List.mem_cons_of_mem _ hb).then_heap (Nat.le_succ _) fun b o hb e => ?_) mv3) T3 m3 ll3
      rw [sb.2 b fun z => hb (by rw [z]; exact List.mem_cons_self)]
      exact e
/-- what set.__init__ leaves -/
def SetLeft (P : Program) (w : World) (s : Shared) (xs : List Str) (r : Value) (s2 : Shared) : Prop :=
  r = .none ∧ ∃ h' tk ks, s2 = { s with heap := h', toks := tk } ∧ TxS P w h' s.heap.objs.size ks ∧ (∀ x, x ∈ ks ↔ x ∈ xs) ∧ ∀ b o, s.heap.get? b = some o → h'.get? b = some o
theorem call_set_txs {l : Addr} {items : Array Value} {xs : List Str} {Q : Value → Shared → Prop} (hh : A.handled = none) (hl : s.heap.IsTuple l items) (hi : PyProof.Rows.StrsAre items.toList xs) (room : xs.length + 1 < scanBound)
    (q : ∀ h' tk ks, TxS P w h' s.heap.objs.size ks → (∀ x, x ∈ ks ↔ x ∈ xs) → (∀ b o, s.heap.get? b = some o → h'.get? b = some o) → Q (.ref s.heap.objs.size) { s with heap := h', toks := tk }) :
    wpAny (model P w) A (call (.type "set") [.ref l]) Q E s := by
  have hz : items.size = xs.length := by rw [← PyProof.Rows.StrsAre.len_eq hi, Array.length_toList]
  have lA : l < s.heap.objs.size := by obtain ⟨o, e, _⟩ := hl; exact Heap.lt_size e
  have new : (s.heap.push (set0 w)).get? s.heap.objs.size = some (set0 w) := Heap.get?_push_size _ rfl
  obtain ⟨_, _, f1⟩ := PySem.F.called_set.mro; have f2 := PySem.F.called_set.made; have f3 := PySem.F.called_set.sub
  have f4 := PySem.F.called_set.notType; have f5 := PySem.F.called_set.canCreate; have f6 := PySem.F.typeCall_set_1 (.ref l)
  refine wpAny_call (codeAny_of_tree (?_ : wpAny _ _ (callAny (.type "set") _) _ _ _))
  refine wpAny_pure ⟨Code.quiet_builtin _ (by decide +kernel), codeAny_builtin PySem.F.entry_type_call (?_)⟩
  rw [Around.under_plain (weight_type_call_type "set" [.ref l] []) rfl]; repeat (any_goals (first | assumption | wp_step))
  refine codeAny_mono (L2.code_set_led1 (.ref l) (E := E) (Q₁ := fun v s1 => v = .ref s.heap.objs.size ∧ s1 = { s with heap := s.heap.push (set0 w) }) ⟨rfl, rfl⟩) fun r s1 hr => ?_
  match r, hr with
  | .error e, hr => exact hr
  | .ok (.ret v), hr =>
    obtain ⟨rfl, rfl⟩ := hr
    have ty : Shared.TypeIs { s with heap := s.heap.push (set0 w) } (.ref s.heap.objs.size) "set" := ⟨_, new, rfl⟩
    have g1 := PySem.F.called_set.init.lookup; have g2 := PySem.F.called_set.init.bind (.ref s.heap.objs.size)
    repeat' (first | assumption | wp_step)
    refine codeAny_mono (codeAny_call_builtin (R := wants (SetLeft P w s xs) E) PySem.F.called_set.init.plain PySem.F.entry_set_init (check_set_init_1 ty ?_)) fun r2 s2 hr2 => ?_
    · obtain ⟨⟨oc, od, oda, osl⟩, e0, rfl, k0, rfl⟩ : ∃ o, s.heap.get? l = some o ∧ o.cls = .type "tuple" ∧ ∃ k0, o.data = .seq items k0 := hl
      have old : (s.heap.push (set0 w)).get? l = some { cls := .type "tuple", dict := od, data := .seq items k0, slots := osl } := Heap.get?_push_of_some _ e0
      have n1 := PySem.F.sub_tuple_set; have n2 := PySem.F.sub_tuple_frozenset
      have n3 : (Value.type "tuple" == Value.type "dict") = false := by decide
      have tup1 : (s.heap.push (set0 w)).IsTuple l items := ⟨_, old, rfl, k0, rfl⟩
      have sz1 : (s.heap.push (set0 w)).objs.size = s.heap.objs.size + 1 := PyProof.Rows.size_push' _ _
      unfold Builtin.«set.__init__» noKeywords Builtin.Frozenset.updateFrom
      generalize eI : pyIter = it
      wp_walk
      subst eI
      refine wpAny_pyIter_tuple tup1 (wpAny_bind (wpAny_runValue ?_))
      have apart : l ≠ (s.heap.push (set0 w)).objs.size := fun z => absurd lA (by rw [z, sz1]; exact Nat.not_lt.mpr (Nat.le_succ _))
      refine update_txs (w := w) (PySem.Walks.tuple (by simp [hh]) _ l apart items).toS (a := s.heap.objs.size) ?_ xs hz room (fun j v hv => ?_) items.size 0 _ (Nat.zero_add _) ⟨⟨_, Heap.get?_push_size _ rfl, rfl, rfl⟩, tup1.push _⟩ ⟨[], txs_new (Heap.get?_push_of_some _ new), by simp, Nat.le_refl _⟩ fun s3 ks mv T3 mem3 _ => ?_
      · simp only [List.mem_cons, List.not_mem_nil, or_false, not_or]
        exact ⟨fun z => absurd z (by rw [sz1]; exact Nat.ne_of_lt (Nat.lt_succ_self _)), fun z => absurd lA (by rw [z]; exact Nat.lt_irrefl _)⟩
      · have hj : j < xs.length := by rw [← hz]; exact (Array.getElem?_eq_some_iff.mp hv).1
        obtain ⟨t, e⟩ := SS.strs_at hi j v (by rw [Array.getElem?_toList]; exact hv)
        exact ⟨xs[j], t, List.getElem?_eq_getElem hj, by rw [e, List.getD_eq_getElem?_getD, List.getElem?_eq_getElem hj] <;> rfl⟩
      · obtain ⟨h3, gn, dr, t3, o3⟩ := s3
        obtain rfl : gn = s.gens := mv.gens
        obtain rfl : dr = s.drawn := mv.drawn
        obtain rfl : o3 = s.os := mv.os
        show wpAny _ _ (pure ()) _ _ _
        refine wpAny_pure (wpAny_pure ?_)
        refine ⟨rfl, h3, t3, ks, rfl, T3, mem3, fun b o e => ?_⟩
        have hb := Heap.lt_size e
        refine mv.heap b o ?_ (Heap.get?_push_of_some _ (Heap.get?_push_of_some _ e))
        simp only [List.mem_cons, List.not_mem_nil, or_false, not_or]
        exact ⟨Nat.ne_of_lt hb, fun z => absurd hb (by rw [z, sz1]; exact Nat.not_lt.mpr (Nat.le_succ _))⟩
    · match r2, hr2 with
      | .error e, hr2 => exact hr2
      | .ok (.ret v2), hr2 =>
        obtain ⟨rfl, h', tk, ks, rfl, T', m', k'⟩ := hr2
        repeat' (first | assumption | wp_step)
        exact q h' tk ks T' m' k'
end
end Pl

set_option maxHeartbeats 4000000
namespace Pl
open PySem L2
/-- a method by values: the receiver's reading and the arguments' stand apart -/
def MRs (K : Kw) (g : U → List U → Hm → QU → Prop) : V → List V → Hp → VK → Prop := fun x xs H Q => ∃ a us M Qu, Sim K H M ∧ Rel K H x a ∧ RelL K H xs us ∧ g a us M Qu ∧ Cont K H M Qu Q
def SlS (K : Kw) : V → Option Int → Option Int → Hp → VK → Prop := fun x lo hi H Q => ∃ a M Qu, Sim K H M ∧ Rel K H x a ∧ sliceW a lo hi M Qu ∧ Cont K H M Qu Q
section
variable {X : Cy}
theorem cut_rel {K : Kw} {H : Hp} {vs : List V} {us : List U} (r : RelL K H vs us) (lo hi : Option Int) : RelL K H (cutV vs lo hi) (cutU us lo hi) := by
  unfold cutV cutU
  rw [r.length]
  exact (r.drop _).take _
theorem cut_whole {us : List U} {lo hi : Option Int} (h : HT.sIx us.length 0 lo = 0 ∧ HT.sIx us.length us.length hi = us.length) : cutU us lo hi = us := by
  unfold cutU
  rw [h.1, h.2]
  simp
theorem sl_S : SlR X (SlS (kwX X)) := by
  intro pins s σ H x v vl vu lo hi sl Q I rx hs pl pu h
  obtain ⟨a, M, Qu, S, ra, hf, c⟩ := h
  unfold sliceW at hf
  split at hf
  · rename_i l
    cases ra with
    | tup t r =>
      refine sl_tupA pins s σ H _ v vl vu lo hi sl Q I rx hs pl pu ⟨_, _, rfl, t.sq, fun hw => ?_, fun _ p hp => c.tup S (cut_rel r lo hi) hf hp⟩
      rw [r.length] at hw
      rw [cut_whole hw] at hf
      exact c.at_ S (.tup t r) hf
  · obtain ⟨us, h1, q⟩ := hf
    obtain ⟨vs, e, r⟩ := S _ _ h1
    cases ra
    exact sl_list pins s σ H _ v vl vu lo hi sl Q I rx hs pl pu ⟨_, _, rfl, .inl (.inl e), fun p hp => c.lst S (cut_rel r lo hi) q hp⟩
  · exact hf.elim
/-- o[i] = v -/
def SetS (K : Kw) : TSet := fun o i v H Q => ∃ a b u M Qu, Sim K H M ∧ Rel K H o a ∧ Rel K H i b ∧ Rel K H v u ∧ setW a b u M Qu ∧ ∀ H' M', Stp H M H' M' → Sim K H' M' → Qu M' → Q H'
theorem set_S (hu : X.A.units + 66 < cLine) : PSet X (SetS (kwX X)) := by
  intro pins s σ H o i v ov iv u Q I ro ri rv h
  obtain ⟨a, b, u', M, Qu, S, ra, rb, ru, hf, c⟩ := h
  unfold setW at hf
  split at hf
  · rcases hf with ⟨us, j, k, h1, rfl, e, q⟩ | ⟨t, ks, h1, h2, h3, q⟩ | ⟨ks, h1, h2, h3, q⟩
    · obtain ⟨vs, e1, r⟩ := S _ _ h1
      cases ra
      cases rb
      refine set_list pins s σ H _ _ v ov iv u Q I ro ri rv ⟨_, vs, j, k, rfl, rfl, e1, by rw [r.length]; exact e, ?_⟩
      exact c _ _ (Stp.mut h1) (S.mut (m := .lst (us.set k u')) h1 rfl ⟨_, upd_same, (r.set k ru).stp S (Stp.mut (m := .lst (us.set k u')) h1)⟩) q
    · obtain ⟨H', g, st, S'⟩ := dput_of S h1 h2 rb ru h3
      cases ra
      obtain rfl : ov = Value.ref _ := ro
      exact d_setItem (by omega) I g ri rv fun s' I' => ⟨H', I', c _ _ st S' q⟩
    · cases ra
      obtain rfl : ov = Value.ref _ := ro
      exact n_setItem (by omega) I S h1 h3 h2 rb ri rv ru fun H' s' I' st S' => ⟨H', I', c _ _ st S' q⟩
  · exact hf.elim
/-! ### built-ins -/
theorem vals2R {K : Kw} {H : Hp} {xs : List V} {u w : U} (r : RelL K H xs [u, w]) : ∃ v y, xs = [v, y] ∧ Rel K H v u ∧ Rel K H y w := by
  cases r with
  | cons a b => obtain ⟨y, rfl, q⟩ := vals1R b; exact ⟨_, y, rfl, a, q⟩
theorem relL_ints {K : Kw} {H : Hp} : ∀ {ns : List Int} {vs : List V}, RelL K H vs (ns.map U.int) → vs = ns.map V.int
  | [], vs, h => by cases h; rfl
  | n :: ns, vs, h => by
    cases h with
    | cons a b => cases a; rw [relL_ints b]; rfl
theorem relL_bls {K : Kw} {H : Hp} : ∀ {ns : List Bool} {vs : List V}, RelL K H vs (ns.map U.bl) → vs = ns.map V.bl
  | [], vs, h => by cases h; rfl
  | n :: ns, vs, h => by
    cases h with
    | cons a b => cases a; rw [relL_bls b]; rfl
def bfnV : Bfn → Option Value
  | .len => some (.builtin "len")
  | .list => some (.type "list")
  | .tuple => some (.type "tuple")
  | .int => some (.type "int")
  | .abs => some (.builtin "abs")
  | .max => some (.builtin "max")
  | .min => some (.builtin "min")
  | .sorted => some (.builtin "sorted")
  | .sum => some (.builtin "sum")
  | .all => some (.builtin "all")
  | .any => some (.builtin "any")
  | .tupd => some (.type "tuple")
  | .dict => some (.type "dict")
  | _ => none
theorem cr_len : CallR X (.builtin "len") (CRs (kwX X) (bltW .len)) := by
  intro pins s σ H xs us Q I r h
  obtain ⟨as, M, Qu, S, ra, hf, c⟩ := h
  unfold bltW at hf
  split at hf <;> first | (rename_i e; cases e; done) | skip
  · rename_i e
    obtain ⟨v, rfl, rv⟩ := vals1R ra
    cases rv with
    | tup t rl =>
      refine call_len_seq pins s σ H _ us Q I r ⟨_, _, rfl, .inr t.sq, ?_⟩
      rw [rl.length]
      exact c.at_ S (.int _) hf
  · obtain ⟨v, rfl, rv⟩ := vals1R ra
    cases rv
    exact call_len_str pins s σ H _ us Q I r ⟨_, rfl, le_line hf.1, c.at_ S (.int _) hf.2⟩
  · obtain ⟨v, rfl, rv⟩ := vals1R ra
    cases rv
    rcases hf with ⟨ws, h1, q⟩ | ⟨ks, h1, q⟩
    · obtain ⟨vs, e, rl⟩ := S _ _ h1
      refine call_len_seq pins s σ H _ us Q I r ⟨_, _, rfl, .inl (.inl (.inl e)), ?_⟩
      rw [rl.length]
      exact c.at_ S (.int _) q
    · obtain ⟨kvs, e, rl⟩ := S _ _ h1
      refine call_lenD pins s σ H _ us Q I r ⟨_, _, rfl, e, ?_⟩
      rw [RelK.len rl]
      exact c.at_ S (.int _) q
  · obtain ⟨v, rfl, rv⟩ := vals1R ra
    cases rv with
    | dtp t rl =>
      refine call_len_seq pins s σ H _ us Q I r ⟨_, _, rfl, .inr t.sq, ?_⟩
      rw [rl.length]
      exact c.at_ S (.int _) hf
  · exact hf.elim
theorem cr_listS (hc : X.calm = true) : CallR X (.type "list") (CRs (kwX X) (bltW .list)) := by
  intro pins s σ H xs us Q I r h
  obtain ⟨as, M, Qu, S, ra, hf, c⟩ := h
  unfold bltW at hf
  split at hf <;> first | (rename_i e; cases e; done) | skip
  · obtain ⟨v, rfl, rv⟩ := vals1R ra
    cases rv with
    | tup t rl => exact call_list_of pins s σ H _ us Q I r ⟨_, _, rfl, .inr t.sq, fun l hl => c.lst S rl hf hl⟩
  · obtain ⟨v, rfl, rv⟩ := vals1R ra
    cases rv
    rcases hf with ⟨ws, h1, q⟩ | ⟨ks, h1, q⟩ | ⟨ks, h1, q⟩
    · obtain ⟨vs, e, rl⟩ := S _ _ h1
      exact call_list_of pins s σ H _ us Q I r ⟨_, _, rfl, .inl (.inl (.inl e)), fun l hl => c.lst S rl q hl⟩
    · obtain ⟨kvs, e, rl⟩ := S _ _ h1
      exact call_list_dK hc pins s σ H _ us Q I r ⟨_, _, rfl, e, fun l hl => c.lst S (relK_keys rl) q hl⟩
    · obtain ⟨u, rfl, ru⟩ := vals1 r
      obtain rfl : u = Value.ref _ := ru
      exact n_list hc I S h1 fun vs n rl hn => c.lst S rl q hn
  · obtain ⟨v, rfl, rv⟩ := vals1R ra
    cases rv with
    | dtp t rl => exact call_list_of pins s σ H _ us Q I r ⟨_, _, rfl, .inr t.sq, fun l hl => c.lst S rl hf hl⟩
  · exact hf.elim
theorem cr_tupleS : CallR X (.type "tuple") (CRs (kwX X) (bltW .tuple)) := by
  intro pins s σ H xs us Q I r h
  obtain ⟨as, M, Qu, S, ra, hf, c⟩ := h
  unfold bltW at hf
  split at hf <;> first | (rename_i e; cases e; done) | skip
  · obtain ⟨v, rfl, rv⟩ := vals1R ra
    cases rv with
    | tup t rl => exact call_tuple_of pins s σ H _ us Q I r ⟨_, _, rfl, .inr ⟨t.sq, c.at_ S (.tup t rl) hf⟩⟩
  · obtain ⟨v, rfl, rv⟩ := vals1R ra
    cases rv with
    | dtp t rl => exact call_tuple_of pins s σ H _ us Q I r ⟨_, _, rfl, .inr ⟨t.sq, c.at_ S (.dtp t rl) hf⟩⟩
  · obtain ⟨v, rfl, rv⟩ := vals1R ra
    cases rv
    obtain ⟨ws, h1, q⟩ := hf
    obtain ⟨vs, e, rl⟩ := S _ _ h1
    exact call_tuple_of pins s σ H _ us Q I r ⟨_, _, rfl, .inl ⟨.inl (.inl e), fun l hl => c.tup S rl q hl⟩⟩
  · exact hf.elim
theorem cr_tupdS : CallR X (.type "tuple") (CRs (kwX X) (bltW .tupd)) := by
  intro pins s σ H xs us Q I r h
  obtain ⟨as, M, Qu, S, ra, hf, c⟩ := h
  unfold bltW at hf
  split at hf <;> first | (rename_i e; cases e; done) | skip
  · obtain ⟨v, rfl, rv⟩ := vals1R ra
    cases rv
    obtain ⟨ws, h1, q⟩ := hf
    obtain ⟨vs, e, rl⟩ := S _ _ h1
    obtain ⟨u, rfl, rx⟩ := vals1 r
    cases rx
    obtain ⟨its, r', pl, hz⟩ := I.list (xs := vs) (.inl (.inl e))
    have hlen := r'.length
    refine call_tuple_list pl.isList (fun h' kp => ?_) (by simp only [List.size_toArray] <;> omega)
    have I1 : L2.Inv X pins σ H { s with heap := h' } := I.kept (t' := s.toks) kp
    have hf0 := I1.hok.fresh (Nat.le_refl h'.objs.size)
    have I2 : L2.Inv X pins σ (upd H h'.objs.size (.frz { cls := .type "tuple", data := .seq its.toArray } (.tup vs))) { s with heap := h'.push { cls := .type "tuple", data := .seq its.toArray } } :=
      I1.laid (t' := s.toks) (fun b o e => Heap.get?_push_of_some _ e) (Nat.le_refl _) (show ObjOk X.prog X.w _ _ _ (.frz _ (.tup vs)) from ⟨Heap.get?_push_size _ rfl, hz, its, r', PyProof.Rows.IsTup.new _ _⟩)
    refine ⟨.ref h'.objs.size, _, I2, rfl, ?_⟩
    have st : Stp H M (upd H h'.objs.size (.frz { cls := .type "tuple", data := .seq its.toArray } (.tup vs))) M := Stp.newT S hf0
    have S2 : Sim (kwX X) (upd H h'.objs.size (.frz { cls := .type "tuple", data := .seq its.toArray } (.tup vs))) M := S.to st fun a o e => .inl ⟨e, upd_ne fun z => by
      have q := S.fr hf0
      rw [z, q] at e
      cases e⟩
    exact c _ _ (.dtp ws) M st S2 (.dtp (.inl ⟨_, upd_same, rfl, rfl⟩) (rl.stp S st)) q
  · exact hf.elim
theorem cr_intS : CallR X (.type "int") (CRs (kwX X) (bltW .int)) := by
  intro pins s σ H xs us Q I r h
  obtain ⟨as, M, Qu, S, ra, hf, c⟩ := h
  unfold bltW at hf
  split at hf <;> first | (rename_i e; cases e; done) | skip
  · obtain ⟨v, rfl, rv⟩ := vals1R ra
    cases rv
    exact call_int1 pins s σ H _ us Q I r (.inl ⟨_, rfl, c.at_ S (.int _) hf⟩)
  · obtain ⟨v, rfl, rv⟩ := vals1R ra
    cases rv
    exact call_int1 pins s σ H _ us Q I r (.inr ⟨_, rfl, c.at_ S (.int _) hf⟩)
  · exact hf.elim
theorem cr_absS : CallR X (.builtin "abs") (CRs (kwX X) (bltW .abs)) := by
  intro pins s σ H xs us Q I r h
  obtain ⟨as, M, Qu, S, ra, hf, c⟩ := h
  unfold bltW at hf
  split at hf <;> first | (rename_i e; cases e; done) | skip
  · obtain ⟨v, rfl, rv⟩ := vals1R ra
    cases rv
    exact call_abs pins s σ H _ us Q I r ⟨_, rfl, c.at_ S (.int _) hf⟩
  · exact hf.elim
theorem cr_maxS (hc : X.calm = true) : CallR X (.builtin "max") (CRs (kwX X) (bltW .max)) := by
  intro pins s σ H xs us Q I r h
  obtain ⟨as, M, Qu, S, ra, hf, c⟩ := h
  unfold bltW at hf
  split at hf <;> first | (rename_i e; cases e; done) | skip
  · obtain ⟨v, y, rfl, rv, ry⟩ := vals2R ra
    cases rv; cases ry
    exact call_max2 hc pins s σ H _ us Q I r ⟨_, _, rfl, c.at_ S (.int _) hf⟩
  · obtain ⟨v, rfl, rv⟩ := vals1R ra
    cases rv
    obtain ⟨ns, h1, hn, q⟩ := hf
    obtain ⟨vs, e, rl⟩ := S _ _ h1
    obtain rfl := relL_ints rl
    exact cr_max hc pins s σ H _ us Q I r ⟨_, ns, rfl, .inl (.inl e), hn, fun m h1 h2 => c.at_ S (.int _) (q m h1 h2)⟩
  · exact hf.elim
theorem cr_minS (hc : X.calm = true) : CallR X (.builtin "min") (CRs (kwX X) (bltW .min)) := by
  intro pins s σ H xs us Q I r h
  obtain ⟨as, M, Qu, S, ra, hf, c⟩ := h
  unfold bltW at hf
  split at hf <;> first | (rename_i e; cases e; done) | skip
  · obtain ⟨v, y, rfl, rv, ry⟩ := vals2R ra
    cases rv; cases ry
    exact call_min2 hc pins s σ H _ us Q I r ⟨_, _, rfl, c.at_ S (.int _) hf⟩
  · obtain ⟨v, rfl, rv⟩ := vals1R ra
    cases rv
    obtain ⟨ns, h1, hn, q⟩ := hf
    obtain ⟨vs, e, rl⟩ := S _ _ h1
    obtain rfl := relL_ints rl
    exact cr_min hc pins s σ H _ us Q I r ⟨_, ns, rfl, .inl (.inl e), hn, fun m h1 h2 => c.at_ S (.int _) (q m h1 h2)⟩
  · exact hf.elim
theorem cr_sumS (hc : X.calm = true) : CallR X (.builtin "sum") (CRs (kwX X) (bltW .sum)) := by
  intro pins s σ H xs us Q I r h
  obtain ⟨as, M, Qu, S, ra, hf, c⟩ := h
  unfold bltW at hf
  split at hf <;> first | (rename_i e; cases e; done) | skip
  · obtain ⟨v, rfl, rv⟩ := vals1R ra
    cases rv
    obtain ⟨ns, h1, q⟩ := hf
    obtain ⟨vs, e, rl⟩ := S _ _ h1
    obtain rfl := relL_ints rl
    exact cr_sum hc pins s σ H _ us Q I r ⟨_, ns, rfl, .inl (.inl e), c.at_ S (.int _) q⟩
  · exact hf.elim
theorem cr_allS (hc : X.calm = true) : CallR X (.builtin "all") (CRs (kwX X) (bltW .all)) := by
  intro pins s σ H xs us Q I r h
  obtain ⟨as, M, Qu, S, ra, hf, c⟩ := h
  unfold bltW at hf
  split at hf <;> first | (rename_i e; cases e; done) | skip
  · obtain ⟨v, rfl, rv⟩ := vals1R ra
    cases rv
    obtain ⟨ns, h1, q⟩ := hf
    obtain ⟨vs, e, rl⟩ := S _ _ h1
    obtain rfl := relL_bls rl
    exact cr_all hc pins s σ H _ us Q I r ⟨_, ns, rfl, .inl (.inl e), c.at_ S (.bl _) q⟩
  · exact hf.elim
theorem cr_anyS (hc : X.calm = true) : CallR X (.builtin "any") (CRs (kwX X) (bltW .any)) := by
  intro pins s σ H xs us Q I r h
  obtain ⟨as, M, Qu, S, ra, hf, c⟩ := h
  unfold bltW at hf
  split at hf <;> first | (rename_i e; cases e; done) | skip
  · obtain ⟨v, rfl, rv⟩ := vals1R ra
    cases rv
    obtain ⟨ns, h1, q⟩ := hf
    obtain ⟨vs, e, rl⟩ := S _ _ h1
    obtain rfl := relL_bls rl
    exact cr_any hc pins s σ H _ us Q I r ⟨_, ns, rfl, .inl (.inl e), c.at_ S (.bl _) q⟩
  · exact hf.elim
theorem cr_dictS : CallR X (.type "dict") (CRs (kwX X) (bltW .dict)) := by
  intro pins s σ H xs us Q I r h
  obtain ⟨as, M, Qu, S, ra, hf, c⟩ := h
  unfold bltW at hf
  split at hf <;> first | (rename_i e; cases e; done) | skip
  · obtain ⟨v, rfl, rv⟩ := vals1R ra
    cases rv
    obtain ⟨ks, h1, q⟩ := hf
    obtain ⟨kvs, e, rl⟩ := S _ _ h1
    refine call_dictD pins s σ H _ us Q I r ⟨_, kvs, rfl, .inl e, fun p hp => ?_⟩
    have st : Stp H M (upd H p (.dK kvs)) (um M p (.dct false false ks)) := Stp.new S hp
    exact c _ _ (.ref p) _ st (S.new (m := .dct false false ks) hp ⟨kvs, upd_same, Paired.mapR rl fun p q x => ⟨x.1, x.2.stp S st⟩⟩) (.ref p) (q p (S.fr hp))
  · exact hf.elim
theorem cr_S (hc : X.calm = true) (hu : X.A.units + 66 < cLine) {f : Bfn} {v : Value} (h : bfnV f = some v) : CallR X v (CRs (kwX X) (bltW f)) := by
  cases f <;> first | (cases h; done) | skip
  · cases h; exact cr_len
  · cases h; exact cr_listS hc
  · cases h; exact cr_tupleS
  · cases h; exact cr_intS
  · cases h; exact cr_absS
  · cases h; exact cr_maxS hc
  · cases h; exact cr_minS hc
  · cases h; exact cr_sortedS hc hu
  · cases h; exact cr_sumS hc
  · cases h; exact cr_allS hc
  · cases h; exact cr_anyS hc
  · cases h; exact cr_dictS
  · cases h; exact cr_tupdS
/-! ### methods -/
/-- the receiver's type, where the method is called -/
def mfnT : Mfn → Option (String × Str × String)
  | .append => some ("list", "append", "list.append")
  | .extend => some ("list", "extend", "list.extend")
  | .pop => some ("list", "pop", "list.pop")
  | .popAt => some ("list", "pop", "list.pop")
  | .index => some ("list", "index", "list.index")
  | .split => some ("str", "split", "str.split")
  | .pop2 => some ("dict", "pop", "dict.pop")
  | _ => none
theorem mt_appendS : MtR X "list.append" (MRs (kwX X) (mthW .append)) := by
  intro pins s σ H x xs v us Q I r rs h
  obtain ⟨a, bs, M, Qu, S, ra, rb, hf, c⟩ := h
  unfold mthW at hf
  split at hf <;> first | (rename_i e; cases e; done) | skip
  · obtain ⟨ws, h1, h2, q⟩ := hf
    obtain ⟨y, rfl, ry⟩ := vals1R rb
    obtain ⟨vs, e, rl⟩ := S _ _ h1
    cases ra
    exact mt_append pins s σ H _ _ v us Q I r rs ⟨_, vs, y, rfl, rfl, e, by rw [rl.length]; exact lt_line h2, c.mutL S h1 (rl.append (.cons ry .nil)) .non q⟩
  · exact hf.elim
theorem td_obj {b : Addr} {zs : List V} {pins : List (Addr × Obj)} {s : Shared} {σ : L2.St} {H : Hp} (I : L2.Inv X pins σ H s) (td : Td (kwX X) H b zs) :
    ∃ ob, s.heap.get? b = some ob ∧ (∃ its2 : List Value, Vals zs its2 ∧ ob.cls = .type "tuple" ∧ ∃ n2, ob.data = .seq its2.toArray n2) ∧ zs.length ≤ sizeLine ∧ ob.dict = none ∧ ob.slots = #[] := by
  rcases td with ⟨ob, hB, hd, hs⟩ | ⟨ob, its, n, ⟨h1, h2, h3, h4, h5⟩, hd, hs⟩
  · obtain ⟨hg, hz2, its2, rv, ho⟩ := (show ObjOk X.prog X.w H s.heap b (.frz ob (.tup zs)) from I.hok b _ hB)
    obtain ⟨o2, h2, h3, n2, h4⟩ := ho
    obtain rfl : o2 = ob := by rw [hg] at h2; injection h2 with h2; exact h2.symm
    exact ⟨o2, hg, ⟨its2, rv, h3, n2, h4⟩, hz2, hd, hs⟩
  · refine ⟨ob, I.kIn b ob h1, ⟨its.toList, h5, h2, n, by rw [h3]⟩, ?_, hd, hs⟩
    rw [h5.length]
    simpa using h4
/-- a list extended by a tuple that has no dict -/
theorem mt_extT {l b : Addr} {xs zs : List V} {ob : Obj} {pins : List (Addr × Obj)} {s : Shared} {σ : L2.St} {H : Hp} {Q : VK} (I : L2.Inv X pins σ H s) (hH : H l = some (.lst xs)) (hg : s.heap.get? b = some ob) (hob : ∃ its2 : List Value, Vals zs its2 ∧ ob.cls = .type "tuple" ∧ ∃ n2, ob.data = .seq its2.toArray n2) (hz2 : zs.length ≤ sizeLine) (hd : ob.dict = none) (hs : ob.slots = #[]) (hz : xs.length + zs.length ≤ sizeLine) (q : Q .non (upd H l (.lst (xs ++ zs)))) :
    wpAny (model X.prog X.w) X.A (call (.builtin "list.extend") [.ref l, .ref b]) (EP X pins σ Q) X.xe s := by
  obtain ⟨z, its, n, r, hl, e⟩ := I.lstM hH
  obtain ⟨its2, rv, h3, n2, h4⟩ := hob
  have e2 : s.heap.get? b = some { cls := .type "tuple", data := .seq its2.toArray n2 } := by
    rw [hg]
    obtain ⟨c1, c2, c3, c4⟩ := ob
    simp only at h3 hd hs h4
    subst h3 hd hs h4
    rfl
  have hl2 : its2.length = zs.length := rv.length.symm
  have hl1 : its.length = xs.length := hl.symm
  have hsz : its.toArray.size + its2.toArray.size ≤ sizeLine := by
    rw [List.size_toArray, List.size_toArray]; omega
  have hlong : ¬(!its.toArray.isEmpty && Builtin.List.listTooLong (its.toArray.size + its2.toArray.size)) = true := by
    rw [notLongL hsz, Bool.and_false]; decide
  exact call_meets PySem.F.slot_list_extend ⟨_, e, rfl⟩ PySem.F.entry_list_extend (PySem.F.args_list_extend_2 (.ref l) (.ref b))
    (AutoSeq1.list_extend_list_tuple_0 l its.toArray n b its2.toArray n2 hlong (by rw [List.size_toArray]; omega) (by omega))
    ⟨e, e2, .non, _, I.lset hH e (by rw [List.append_toArray]) (r.append rv) (by rw [List.length_append]; exact hz), rfl, q⟩
theorem mt_extendS : MtR X "list.extend" (MRs (kwX X) (mthW .extend)) := by
  intro pins s σ H x xs v us Q I r rs h
  obtain ⟨a, bs, M, Qu, S, ra, rb, hf, c⟩ := h
  unfold mthW at hf
  split at hf <;> first | (rename_i e; cases e; done) | skip
  · obtain ⟨ws, zs, h1, h2, h3, q⟩ := hf
    obtain ⟨y, rfl, ry⟩ := vals1R rb
    obtain ⟨vs, e, rl⟩ := S _ _ h1
    obtain ⟨ys, e2, rl2⟩ := S _ _ h2
    cases ra; cases ry
    exact mt_extend pins s σ H _ _ v us Q I r rs ⟨_, _, vs, ys, rfl, rfl, e, e2, by rw [rl.length, rl2.length]; exact le_line h3, c.mutL S h1 (rl.append rl2) .non q⟩
  · obtain ⟨ws, h1, h3, q⟩ := hf
    obtain ⟨y, rfl, ry⟩ := vals1R rb
    obtain ⟨vs, e, rl⟩ := S _ _ h1
    cases ra
    cases ry with
    | dtp td rl2 =>
      obtain rfl : v = _ := r
      obtain ⟨u, rfl, ru⟩ := vals1 rs
      cases ru
      obtain ⟨ob, hg, hob, hz2, hd, hs⟩ := td_obj I td
      exact mt_extT I e hg hob hz2 hd hs (by rw [rl.length, rl2.length]; exact le_line h3) (c.mutL S h1 (rl.append rl2) .non q)
  · exact hf.elim
theorem mt_popS : MtR X "list.pop" (MRs (kwX X) (mthW .pop)) := by
  intro pins s σ H x xs v us Q I r rs h
  obtain ⟨a, bs, M, Qu, S, ra, rb, hf, c⟩ := h
  unfold mthW at hf
  split at hf <;> first | (rename_i e; cases e; done) | skip
  · obtain ⟨ws, y, h1, h2, q⟩ := hf
    cases rb
    obtain ⟨vs, e, rl⟩ := S _ _ h1
    obtain ⟨z, e2, rz⟩ := rl.get h2
    cases ra
    exact mt_pop pins s σ H _ _ v us Q I r rs ⟨_, vs, z, rfl, rfl, e, by rw [rl.length]; exact e2, c.mutL S h1 rl.dropLast rz q⟩
  · exact hf.elim
theorem mt_popAtS : MtR X "list.pop" (MRs (kwX X) (mthW .popAt)) := by
  intro pins s σ H x xs v us Q I r rs h
  obtain ⟨a, bs, M, Qu, S, ra, rb, hf, c⟩ := h
  unfold mthW at hf
  split at hf <;> first | (rename_i e; cases e; done) | skip
  · obtain ⟨ws, k, y, h1, h2, h3, h4, q⟩ := hf
    obtain ⟨y2, rfl, ry⟩ := vals1R rb
    obtain ⟨vs, e, rl⟩ := S _ _ h1
    obtain ⟨z, e2, rz⟩ := rl.get h4
    obtain ⟨e3, e4, e5, e6⟩ := ixN_seq h3
    have hl : LIM = 100000 := rfl
    cases ra; cases ry
    exact mt_popAt pins s σ H _ _ v us Q I r rs ⟨_, vs, _, k, z, rfl, rfl, e, by omega, by omega, by rw [rl.length]; exact e3, e2, c.mutL S h1 (rl.eraseIdx k) rz q⟩
  · exact hf.elim
theorem mt_indexS (hu : X.A.units + 66 < cLine) : MtR X "list.index" (MRs (kwX X) (mthW .index)) := by
  intro pins s σ H x xs v us Q I r rs h
  obtain ⟨a, bs, M, Qu, S, ra, rb, hf, c⟩ := h
  unfold mthW at hf
  split at hf <;> first | (rename_i e; cases e; done) | skip
  · rename_i y _
    obtain ⟨ws, j, h1, h2, h3, h4, h5, q⟩ := hf
    obtain ⟨y2, rfl, ry⟩ := vals1R rb
    cases ra
    refine mt_indexD (by omega) pins s σ H _ _ v us Q I r rs ⟨_, y2, pd y, pdL ws, j, pd y, rfl, rfl, okL_dp S h1 h3, ok_dp 60 y y2 h2 ry, okL_shaped h3, ok_shaped h2 (by decide), ?_, ?_, ?_, c.at_ S (.int _) q⟩
    · rw [pdL_map, List.getElem?_map, h4]
      rfl
    · rw [ok_eqv 60 y 60 y h2 h2]
      exact decide_eq_true rfl
    · intro m z' hm hz
      rw [pdL_map, List.getElem?_map] at hz
      cases hw : ws[m]? with
      | none => rw [hw] at hz; cases hz
      | some w =>
        rw [hw] at hz
        cases hz
        rw [ok_eqv 59 w 60 y (okL_all h3 w (List.mem_of_getElem? hw)) h2]
        exact decide_eq_false fun e => h5 m hm (by rw [hw, e])
  · exact hf.elim
theorem RelT.dropk {K : Kw} {H : Hp} {kvs : List (List Key × V)} {ks : List (U × U)} (h : RelT K H kvs ks) (key : List Key) : RelT K H (dropK kvs key) (ddrop ks (.tup (key.map keyU))) := by
  induction h with
  | nil => exact .nil
  | @cons p q kvs ks a _ ih =>
    unfold dropK ddrop at ih ⊢
    rw [List.filter_cons, List.filter_cons]
    by_cases e : p.1 = key
    · rw [if_neg (by simpa using e), if_neg (by rw [a.1, e]; simp)]
      exact ih
    · rw [if_pos (by simpa using e), if_pos (by
        rw [a.1, Bool.not_eq_true', decide_eq_false_iff_not]
        intro h
        injection h with h
        exact e (keysU_inj h))]
      exact .cons a ih
theorem mt_popT1 {a b : Addr} {kvs : List (List Key × V)} {k : List Key} {w0 : V} {pins : List (Addr × Obj)} {s : Shared} {σ : L2.St} {H : Hp} {Q : VK} (hu : X.A.units + 1 < cLine) (I : L2.Inv X pins σ H s) (ha : H a = some (.dT kvs)) (hb : H b = some (.tup (k.map kV))) (hv : valV kvs k = some w0) (q : Q w0 (upd H a (.dT (dropK kvs k)))) :
    wpAny (model X.prog X.w) X.A (call (.builtin "dict.pop") [.ref a, .ref b]) (EP X pins σ Q) X.xe s := by
  obtain ⟨z, hd, xs', rel, dd⟩ := dt_of I.hok ha
  have hz : xs'.length ≤ sizeLine := by rw [← Paired.length rel]; exact z
  refine call_meetsIn PySem.F.slot_dict_pop dd.typeIs PySem.F.entry_dict_pop (PySem.F.args_dict_pop_2 (.ref a) (.ref b)) (meetsH_dict_pop _ a b hd [] (.inl rfl)) ⟨tupleKind_room_in1 hu, k, xs', key_of I.hok hb, dd, hz, fun p hp h' dd' hs => ?_, fun hn => ?_⟩
  · have r := KT.val rel k
    rw [hp, hv] at r
    obtain ⟨o, es, ep, hq, h2, h3, h4, h5, h6⟩ := dd'
    have I2 : L2.Inv X pins σ (upd H a (.dT (dropK kvs k))) { heap := h', gens := s.gens, drawn := s.drawn, toks := s.toks + (tupleKind (mixKind X.prog X.w)).draws k, os := s.os } := d_write (ob := .dT (dropK kvs k)) (t' := s.toks + (tupleKind (mixKind X.prog X.w)).draws k) I (by rw [ha]; trivial) hs ⟨o, hq⟩ ⟨Nat.le_trans (dropK_le kvs k) z, hd, DT.dropH xs' k, (DX.KT_drop k rel).keeps (fun b ys ec => by rw [upd_ne (ne_of ec ha fun z => nomatch z)]; exact ec), o, es, ep, hq, h2, h3, h4, h6⟩
    exact ⟨w0, _, I2, r, q⟩
  · have r := KT.val rel k
    rw [hn, hv] at r
    exact r.elim
theorem mt_pop2S (hu : X.A.units + 66 < cLine) : MtR X "dict.pop" (MRs (kwX X) (mthW .pop2)) := by
  intro pins s σ H x xs v us Q I r rs h
  obtain ⟨a, bs, M, Qu, S, ra, rb, hf, c⟩ := h
  unfold mthW at hf
  split at hf <;> first | (rename_i e; cases e; done) | skip
  · obtain ⟨ks, w0, h1, hk, hw, q⟩ := hf
    obtain ⟨y, rfl, ry⟩ := vals1R rb
    obtain ⟨kvs, e, rk⟩ := S _ _ h1
    have e : H _ = some (.dT kvs) := e
    obtain ⟨b, key, e1, e2, e3⟩ := isKeyT_of hk ry
    subst e2
    cases ra
    rw [e1] at q hw
    obtain rfl : v = _ := r
    obtain ⟨u, rfl, ru⟩ := vals1 rs
    cases ru
    rcases rk.find key with ⟨g1, g2⟩ | ⟨w', u', g1, g2, g3⟩
    · rw [hw] at g2; cases g2
    · rw [hw] at g2
      cases g2
      have st : Stp H M (upd H _ (.dT (dropK kvs key))) (um M _ (.dct false true (ddrop ks (.tup (key.map keyU))))) := Stp.mut h1
      exact mt_popT1 (by omega) I e e3 g1 (c _ _ w0 _ st (S.mut (m := .dct false true (ddrop ks (.tup (key.map keyU)))) h1 rfl ⟨_, upd_same, RelT.dropk (Paired.mapR rk fun p q x => ⟨x.1, x.2.stp S st⟩) key⟩) (g3.stp S st) q)
  · obtain ⟨ks, h1, hk, q⟩ := hf
    obtain ⟨y, d, rfl, ry, rd⟩ := vals2R rb
    obtain ⟨kvs, e, rk⟩ := S _ _ h1
    have e : H _ = some (.dT kvs) := e
    obtain ⟨b, key, e1, e2, e3⟩ := isKeyT_of hk ry
    subst e2
    cases ra
    rw [e1] at q
    refine L2.DX.mt_popT (by omega) pins s σ H _ _ v us Q I r rs ⟨_, kvs, key, b, d, rfl, rfl, e, e3, fun w hw => ?_, fun hw => ?_⟩
    · rcases rk.find key with ⟨g1, g2⟩ | ⟨w', u', g1, g2, g3⟩
      · rw [hw] at g1; cases g1
      · rw [hw] at g1
        cases g1
        rw [g2] at q
        have st : Stp H M (upd H _ (.dT (dropK kvs key))) (um M _ (.dct false true (ddrop ks (.tup (key.map keyU))))) := Stp.mut h1
        exact c _ _ u' _ st (S.mut (m := .dct false true (ddrop ks (.tup (key.map keyU)))) h1 rfl ⟨_, upd_same, RelT.dropk (Paired.mapR rk fun p q x => ⟨x.1, x.2.stp S st⟩) key⟩) (g3.stp S st) q
    · rcases rk.find key with ⟨g1, g2⟩ | ⟨w', u', g1, g2, g3⟩
      · rw [g2] at q
        exact c.at_ S rd q
      · rw [hw] at g1; cases g1
  · exact hf.elim
theorem mt_splitS : MtR X "str.split" (MRs (kwX X) (mthW .split)) := by
  intro pins s σ H x xs v us Q I r rs h
  obtain ⟨a, bs, M, Qu, S, ra, rb, hf, c⟩ := h
  unfold mthW at hf
  split at hf <;> first | (rename_i e; cases e; done) | skip
  · obtain ⟨h1, h2, q⟩ := hf
    obtain ⟨y, rfl, ry⟩ := vals1R rb
    cases ra; cases ry
    exact mt_split pins s σ H _ _ v us Q I r rs ⟨_, _, rfl, rfl, h1, le_line h2, fun p hp => c.lst S (RelL.strs _) q hp⟩
  · exact hf.elim
/-! ### isinstance -/
def IsS (K : Kw) (t : String) : V → Hp → (Bool → Hp → Prop) → Prop := fun x H Q => ∃ a M Qu, Sim K H M ∧ Rel K H x a ∧ isTyW a t M Qu ∧ ContB K H M Qu Q
def tyOk (t : String) : Bool := t == "tuple" || t == "str" || t == "int" || t == "bool" || t == "list"
theorem isTy_of {K : Kw} {t : String} {x : V} {H : Hp} {Q : Bool → Hp → Prop} (ht : tyOk t = true) (h : IsS K t x H Q) : ∃ ty b, TyX K H x ty ∧ PySem.W.kitOne K ty (.type t) = some b ∧ Q b H := by
  obtain ⟨a, M, Qu, S, r, hf, c⟩ := h
  have ht2 : t = "tuple" ∨ t = "str" ∨ t = "int" ∨ t = "bool" ∨ t = "list" := by
    unfold tyOk at ht
    simp only [Bool.or_eq_true, beq_iff_eq] at ht
    rcases ht with (((h | h) | h) | h) | h
    · exact .inl h
    · exact .inr (.inl h)
    · exact .inr (.inr (.inl h))
    · exact .inr (.inr (.inr (.inl h)))
    · exact .inr (.inr (.inr (.inr h)))
  unfold isTyW at hf
  split at hf
  · cases r
    refine ⟨_, _, .base .non, ?_, c _ _ _ (Stp.refl H M) S hf⟩
    rcases ht2 with rfl | rfl | rfl | rfl | rfl <;> exact kit_ty (by decide +kernel)
  · cases r
    refine ⟨_, _, .base (.bl _), ?_, c _ _ _ (Stp.refl H M) S hf⟩
    rcases ht2 with rfl | rfl | rfl | rfl | rfl <;> exact kit_ty (by decide +kernel)
  · cases r
    refine ⟨_, _, .base (.int _), ?_, c _ _ _ (Stp.refl H M) S hf⟩
    rcases ht2 with rfl | rfl | rfl | rfl | rfl <;> exact kit_ty (by decide +kernel)
  · cases r
    refine ⟨_, _, .base (.str _), ?_, c _ _ _ (Stp.refl H M) S hf⟩
    rcases ht2 with rfl | rfl | rfl | rfl | rfl <;> exact kit_ty (by decide +kernel)
  · cases r with
    | tup t1 r1 =>
      rcases t1 with t1 | ⟨_, o1, _, _, e1, e2, _⟩
      · refine ⟨_, _, .base (.tup t1), ?_, c _ _ _ (Stp.refl H M) S hf⟩
        rcases ht2 with rfl | rfl | rfl | rfl | rfl <;> exact kit_ty (by decide +kernel)
      · refine ⟨_, _, .kTuple e1 e2, ?_, c _ _ _ (Stp.refl H M) S hf⟩
        rcases ht2 with rfl | rfl | rfl | rfl | rfl <;> exact kit_ty (by decide +kernel)
  · cases r with
    | dtp t1 r1 =>
      rcases t1 with ⟨o1, e1, _⟩ | ⟨o1, _, _, ⟨e1, e2, _⟩, _⟩
      · refine ⟨_, _, .fTuple e1, ?_, c _ _ _ (Stp.refl H M) S hf⟩
        rcases ht2 with rfl | rfl | rfl | rfl | rfl <;> exact kit_ty (by decide +kernel)
      · refine ⟨_, _, .kTuple e1 e2, ?_, c _ _ _ (Stp.refl H M) S hf⟩
        rcases ht2 with rfl | rfl | rfl | rfl | rfl <;> exact kit_ty (by decide +kernel)
  · obtain ⟨us, h1, q⟩ := hf
    obtain ⟨vs, e, rl⟩ := S _ _ h1
    cases r
    refine ⟨_, _, .base (.lst e), ?_, c _ _ _ (Stp.refl H M) S q⟩
    rcases ht2 with rfl | rfl | rfl | rfl | rfl <;> exact kit_ty (by decide +kernel)
  · exact hf.elim
end
end Pl

set_option maxHeartbeats 4000000
/-! expressions: the text against the small syntax -/
namespace Pl
open PySem L2
def RelS (K : Kw) (H : Hp) (σ : L2.St) (σu : SU) : Prop := σ.length = σu.length ∧ ∀ (i : Nat) (u : U), σu[i]? = some (some u) → ∃ v, σ[i]? = some (some v) ∧ Rel K H v u
theorem RelS.stp {K : Kw} {H H' : Hp} {M M' : Hm} {σ : L2.St} {σu : SU} (S : Sim K H M) (t : Stp H M H' M') (h : RelS K H σ σu) : RelS K H' σ σu :=
  ⟨h.1, fun i u e => let ⟨v, a, b⟩ := h.2 i u e; ⟨v, a, b.stp S t⟩⟩
theorem RelS.set {K : Kw} {H : Hp} {σ : L2.St} {σu : SU} {v : V} {u : U} (h : RelS K H σ σu) (r : Rel K H v u) (i : Nat) : RelS K H (σ.set i (some v)) (σu.set i (some u)) :=
  ⟨by rw [List.length_set, List.length_set, h.1], fun j w e => by
    by_cases hj : i = j
    · subst hj
      by_cases hl : i < σu.length
      · rw [List.getElem?_set_self hl] at e
        cases e
        exact ⟨v, List.getElem?_set_self (by rw [h.1]; exact hl), r⟩
      · rw [List.getElem?_eq_none (by rw [List.length_set]; omega)] at e
        cases e
    · rw [List.getElem?_set_ne hj] at e ⊢
      exact h.2 j w e⟩
theorem RelS.wipe {K : Kw} {H : Hp} {σ : L2.St} {σu : SU} (h : RelS K H σ σu) : ∀ vs : List Nat, RelS K H (L2.wipe σ vs) (wipU σu vs)
  | [] => h
  | v :: vs => by
    have ih := RelS.wipe h vs
    unfold L2.wipe wipU
    refine ⟨by rw [List.length_set, List.length_set, ih.1], fun j w e => ?_⟩
    by_cases hj : v = j
    · subst hj
      by_cases hl : v < (wipU σu vs).length
      · rw [List.getElem?_set_self hl] at e
        cases e
      · rw [List.getElem?_eq_none (by rw [List.length_set]; omega)] at e
        cases e
    · rw [List.getElem?_set_ne hj] at e ⊢
      exact ih.2 j w e

def EvE (K : Kw) (t : TE) (f : WE) : Prop := ∀ (σ : L2.St) (H : Hp) (σu : SU) (M : Hm) (Qu : QU) (Q : VK), RelS K H σ σu → Sim K H M → f σu M Qu → Cont K H M Qu Q → t σ H Q
def EvT (K : Kw) (t : TT) (f : WT) : Prop := ∀ (σ : L2.St) (H : Hp) (σu : SU) (M : Hm) (Qu : Bool → Hm → Prop) (Q : Bool → Hp → Prop), RelS K H σ σu → Sim K H M → f σu M Qu → ContB K H M Qu Q → t σ H Q
def EvL (K : Kw) (t : TA) (f : WL) : Prop := ∀ (σ : L2.St) (H : Hp) (σu : SU) (M : Hm) (Qu : List U → Hm → Prop) (Q : List V → Hp → Prop), RelS K H σ σu → Sim K H M → f σu M Qu → ContL K H M Qu Q → t σ H Q
def ContO (K : Kw) (H : Hp) (M : Hm) (Qu : Option Int → Hm → Prop) (Q : Option Int → Hp → Prop) : Prop := ∀ o H' M', Stp H M H' M' → Sim K H' M' → Qu o M' → Q o H'
def EvO (K : Kw) (t : TO) (f : WO) : Prop := ∀ (σ : L2.St) (H : Hp) (σu : SU) (M : Hm) (Qu : Option Int → Hm → Prop) (Q : Option Int → Hp → Prop), RelS K H σ σu → Sim K H M → f σu M Qu → ContO K H M Qu Q → t σ H Q

def SE1 (X : Cy) (f : WE) (x : Expr) : Prop := ∃ t, PE X x t ∧ EvE (kwX X) t f
def ST (X : Cy) (f : WT) (x : Expr) : Prop := ∃ t, PT X x t ∧ EvT (kwX X) t f
def SE (X : Cy) (W : Wp) (x : Expr) : Prop := SE1 X W.e x ∧ ST X W.t x
def SA (X : Cy) (f : WL) (es : List Expr) : Prop := ∃ t, PA X es t ∧ EvL (kwX X) t f
def SO (X : Cy) (f : WO) (e : Option Expr) : Prop := ∃ t, PO X e t ∧ EvO (kwX X) t f

/-- its test is its value's truth -/
def plainT : Expr → Bool
  | .UnaryOp .Not _ _ => false
  | .BoolOp .. => false
  | .IfExp .. => false
  | .Compare .. => false
  | _ => true
section
variable {X : Cy}
theorem plainT_eq {e : Expr} (h : plainT e = true) (whole : Sem Value) : isTrue e X.env whole = (do let v ← whole; standAt e.pos; holding [v] (truthy v)) := by
  cases e with
  | UnaryOp op _ _ => cases op <;> first | (cases h; done) | rfl
  | BoolOp _ _ _ => cases h
  | IfExp _ _ _ _ => cases h
  | Compare _ _ _ _ => cases h
  | _ => rfl
theorem SE.ofE {f : WE} {x : Expr} (hx : plainT x = true) (h : SE1 X f x) : SE X (.ofE f) x := by
  refine ⟨h, ?_⟩
  obtain ⟨t, p, q⟩ := h
  refine ⟨_, pt_truth p (plainT_eq hx), fun σ H σu M Qu Q rs S hf c => ?_⟩
  exact q σ H σu M _ _ rs S hf fun v H' u M' st S' r hq => tru_of ⟨u, M', Qu, S', r, hq, c.tr S st⟩
theorem se_int {i : Int} {k : Nat} {pos : Pos} : SE1 X (fun _ M Q => Q (.int i) M) (.Constant (.int i) k pos) := ⟨_, pe_int, fun _ _ _ _ _ _ _ S q c => c.at_ S (.int i) q⟩
theorem se_str {i : Str} {k : Nat} {pos : Pos} : SE1 X (fun _ M Q => Q (.str i) M) (.Constant (.str i) k pos) := ⟨_, pe_str, fun _ _ _ _ _ _ _ S q c => c.at_ S (.str i) q⟩
theorem se_bl {i : Bool} {k : Nat} {pos : Pos} : SE1 X (fun _ M Q => Q (.bl i) M) (.Constant (.bool i) k pos) := ⟨_, pe_bl, fun _ _ _ _ _ _ _ S q c => c.at_ S (.bl i) q⟩
theorem se_non {k : Nat} {pos : Pos} : SE1 X (fun _ M Q => Q .non M) (.Constant .none k pos) := ⟨_, pe_non, fun _ _ _ _ _ _ _ S q c => c.at_ S .non q⟩
theorem sa_nil : SA X (fun _ M Q => Q [] M) [] := ⟨_, pa_nil, fun _ H _ M _ _ _ S q c => c _ _ _ _ (Stp.refl H M) S .nil q⟩
def isStar : Expr → Bool
  | .Starred .. => true
  | _ => false
theorem star_cons {e : Expr} {es : List Expr} {env : Env} (h : isStar e = false) : starEach (e :: es) env = (false, eval e env) :: starEach es env := by
  cases e <;> first | (cases h; done) | rfl
theorem star_plain {env : Env} {pos : Pos} : ∀ {es : List Expr}, es.all (fun e => !isStar e) = true → (backTo pos (starEach es env)).any (·.1) = false
  | [], _ => rfl
  | e :: es, h => by
    rw [List.all_cons, Bool.and_eq_true] at h
    have h1 : isStar e = false := by simpa using h.1
    rw [star_cons h1]
    exact star_plain (es := es) h.2
theorem sa_cons {e : Expr} {es : List Expr} {f : WE} {g : WL} (hs : isStar e = false) (h1 : SE1 X f e) (h2 : SA X g es) : SA X (fun σ M Q => f σ M fun x M1 => g σ M1 fun xs M2 => Q (x :: xs) M2) (e :: es) := by
  obtain ⟨t1, p1, q1⟩ := h1
  obtain ⟨t2, p2, q2⟩ := h2
  refine ⟨_, pa_cons p1 p2 (star_cons hs), fun σ H σu M Qu Q rs S hf c => ?_⟩
  refine q1 σ H σu M _ _ rs S hf fun v H1 u M1 st S1 r hq => ?_
  refine q2 σ H1 σu M1 _ _ (rs.stp S st) S1 hq fun vs H2 us M2 st2 S2 rl hq2 => ?_
  exact c _ _ _ _ (st.trans S st2) S2 (.cons (r.stp S1 st2) rl) hq2
theorem se_tup {es : List Expr} {g : WL} {k : Nat} {pos : Pos} (h : SA X g es) : SE1 X (fun σ M Q => g σ M fun xs M1 => xs.length ≤ LIM ∧ Q (.tup xs) M1) (.Tuple es k pos) := by
  obtain ⟨t, p, q⟩ := h
  refine ⟨_, pe_tup p, fun σ H σu M Qu Q rs S hf c => ?_⟩
  refine q σ H σu M _ _ rs S hf fun vs H1 us M1 st S1 r hq => ?_
  exact ⟨by rw [r.length]; exact le_line hq.1, fun n hn => (c.tr S st).tup S1 r hq.2 hn⟩
/-- a written tuple, of which is known that it has no dict -/
def tTupD (t : TA) : TE := fun σ H Q => t σ H fun xs H1 => xs.length ≤ sizeLine ∧ ∀ p o, H1 p = none → o.dict = none → o.slots = #[] → Q (.ref p) (upd H1 p (.frz o (.tup xs)))
theorem pe_tupD {es : List Expr} {t : TA} {pos : Pos} {x1} (h : PA X es t) : PE X (.Tuple es x1 pos) (tTupD t) := by
  refine ⟨fun pins s σ H Q I hq => ?_⟩
  refine wpAny_Tuple_spliced (thn (h.run pos pins s σ H _ I hq) fun us s1 ⟨xs, H1, I1, r, z, q⟩ => ⟨by rw [← r.length]; exact z, ?_⟩)
  have hf : H1 s1.heap.objs.size = none := I1.hok.fresh (Nat.le_refl _)
  refine ⟨.ref s1.heap.objs.size, upd H1 s1.heap.objs.size (.frz { cls := .type "tuple", data := .seq us.toArray } (.tup xs)), I1.laid (t' := s1.toks) (fun b u e => Heap.get?_push_of_some _ e) (Nat.le_refl _) ?_, rfl, q _ _ hf rfl rfl⟩
  exact ⟨Heap.get?_push_size _ rfl, z, us, r, PyProof.Rows.IsTup.new _ _⟩
theorem se_dtup {es : List Expr} {g : WL} {k : Nat} {pos : Pos} (h : SA X g es) : SE1 X (fun σ M Q => g σ M fun xs M1 => xs.length ≤ LIM ∧ Q (.dtp xs) M1) (.Tuple es k pos) := by
  obtain ⟨t, p, q⟩ := h
  refine ⟨_, pe_tupD p, fun σ H σu M Qu Q rs S hf c => ?_⟩
  refine q σ H σu M _ _ rs S hf fun vs H1 us M1 st S1 r hq => ?_
  refine ⟨by rw [r.length]; exact le_line hq.1, fun n o hn ho ho2 => ?_⟩
  have st2 : Stp H1 M1 (upd H1 n (.frz o (.tup vs))) M1 := Stp.newT S1 hn
  have S2 : Sim (kwX X) (upd H1 n (.frz o (.tup vs))) M1 := S1.to st2 fun a o' e => .inl ⟨e, upd_ne fun z => by
    have q := S1.fr hn
    rw [z, q] at e
    cases e⟩
  exact c _ _ (.dtp us) M1 (st.trans S st2) S2 (.dtp (.inl ⟨_, upd_same, ho, ho2⟩) (r.stp S1 st2)) hq.2
theorem se_lst {es : List Expr} {g : WL} {pos : Pos} (h : SA X g es) : SE1 X (fun σ M Q => g σ M fun xs M1 => xs.length ≤ LIM ∧ ∀ p, M1 p = none → Q (.ref p) (um M1 p (.lst xs))) (.List es pos) := by
  obtain ⟨t, p, q⟩ := h
  refine ⟨_, pe_lst p, fun σ H σu M Qu Q rs S hf c => ?_⟩
  refine q σ H σu M _ _ rs S hf fun vs H1 us M1 st S1 r hq => ?_
  exact ⟨by rw [r.length]; exact le_line hq.1, fun n hn => (c.tr S st).lst S1 r hq.2 hn⟩
theorem se_dnew {t : Bool} {pos : Pos} : SE1 X (fun _ M Q => ∀ p, M p = none → Q (.ref p) (um M p (.dct false t []))) (.Dict [] [] pos) := by
  cases t with
  | false =>
    refine ⟨_, pe_dnewK, fun σ H σu M Qu Q rs S hf c p hp => ?_⟩
    exact c _ _ (.ref p) _ (Stp.new S hp) (S.new (m := .dct false false []) hp ⟨[], upd_same, .nil⟩) (.ref p) (hf p (S.fr hp))
  | true =>
    refine ⟨_, pe_dnewT, fun σ H σu M Qu Q rs S hf c p hp => ?_⟩
    exact c _ _ (.ref p) _ (Stp.new S hp) (S.new (m := .dct false true []) hp ⟨[], upd_same, .nil⟩) (.ref p) (hf p (S.fr hp))
theorem se_dnewN {pos : Pos} : SE1 X (fun _ M Q => ∀ p, M p = none → Q (.ref p) (um M p (.dcn []))) (.Dict [] [] pos) := by
  refine ⟨_, pe_dnewN, fun σ H σu M Qu Q rs S hf c p hp hs => ?_⟩
  exact c _ _ (.ref p) _ (Stp.new S hp) (S.new (m := .dcn []) hp ⟨[], upd_same, .nil, hs, Nat.zero_le _⟩) (.ref p) (hf p (S.fr hp))
theorem two {f g : WE} {ta tb : TE} (q1 : EvE (kwX X) ta f) (q2 : EvE (kwX X) tb g) {h : U → U → Hm → QU → Prop} : EvE (kwX X) (tOp (R2s (kwX X) h) ta tb) (fun σ M Q => f σ M fun x M1 => g σ M1 fun y M2 => h x y M2 Q) := fun σ H σu M Qu Q rs S hf c => by
  refine q1 σ H σu M _ _ rs S hf fun v H1 u M1 st S1 r hq => ?_
  refine q2 σ H1 σu M1 _ _ (rs.stp S st) S1 hq fun v2 H2 u2 M2 st2 S2 r2 hq2 => ?_
  exact ⟨u, u2, M2, Qu, S2, r.stp S1 st2, r2, hq2, c.tr S (st.trans S st2)⟩
theorem se_bin {op : Bop} {a b : Expr} {f g : WE} {pos : Pos} (h1 : SE1 X f a) (h2 : SE1 X g b) : SE1 X (fun σ M Q => f σ M fun x M1 => g σ M1 fun y M2 => binW op x y M2 Q) (.BinOp a (bopOf op) b pos) := by
  obtain ⟨t1, p1, q1⟩ := h1
  obtain ⟨t2, p2, q2⟩ := h2
  exact ⟨_, pe_op (op_binS op) p1 p2, two q1 q2⟩
theorem se_neg {a : Expr} {f : WE} {pos : Pos} (h1 : SE1 X f a) : SE1 X (fun σ M Q => f σ M fun x M1 => ∃ i, x = .int i ∧ Q (.int (-i)) M1) (.UnaryOp .USub a pos) := by
  obtain ⟨t1, p1, q1⟩ := h1
  refine ⟨_, pe_un un_neg p1, fun σ H σu M Qu Q rs S hf c => ?_⟩
  refine q1 σ H σu M _ _ rs S hf fun v H1 u M1 st S1 r hq => ?_
  obtain ⟨i, rfl, q⟩ := hq
  cases r
  exact ⟨i, rfl, (c.tr S st).at_ S1 (.int _) q⟩
theorem bl_same {Qu : Bool → Hm → Prop} : (fun (b : Bool) (M1 : Hm) => ∃ b', U.bl b = .bl b' ∧ Qu b' M1) = Qu := by
  funext b M1
  exact propext ⟨fun ⟨b', e, q⟩ => by cases e; exact q, fun q => ⟨b, rfl, q⟩⟩
/-- from a value that is a bool to a test -/
theorem ev_test {f : WT} {t : TE} (q : EvE (kwX X) t (fun σ M Q => f σ M fun b M1 => Q (.bl b) M1)) : EvT (kwX X) (tTest t) f := fun σ H σu M Qu Q rs S hf c => by
  refine q σ H σu M (fun u M' => ∃ b, u = .bl b ∧ Qu b M') _ rs S ?_ fun v H' u M' st S' r hq => ?_
  · show f σu M (fun (b : Bool) (M1 : Hm) => ∃ b', U.bl b = .bl b' ∧ Qu b' M1)
    rw [bl_same]
    exact hf
  · obtain ⟨b, rfl, hq⟩ := hq
    cases r
    exact ⟨b, rfl, c _ _ _ st S' hq⟩
theorem se_cmp {op : Cop} {a b : Expr} {f g : WE} {pos : Pos} (hu : X.A.units + 66 < cLine) (h1 : SE1 X f a) (h2 : SE1 X g b) (hm : behindInMarks (copOf op) b = false) :
    SE X (.ofB fun σ M Q => f σ M fun x M1 => g σ M1 fun y M2 => cmpW op x y M2 Q) (.Compare a [copOf op] [b] pos) := by
  obtain ⟨t1, p1, q1⟩ := h1
  obtain ⟨t2, p2, q2⟩ := h2
  have ev : EvE (kwX X) (tOp (R2s (kwX X) (asB (cmpW op))) t1 t2) (fun σ M Q => f σ M fun x M1 => g σ M1 fun y M2 => cmpW op x y M2 fun b M => Q (.bl b) M) := two q1 q2
  exact ⟨⟨_, pe_cmpR (op_cmpS hu op) p1 p2 hm, ev⟩, ⟨_, pt_cmpR (op_cmpS hu op) p1 p2 hm, ev_test ev⟩⟩
theorem se_chain {o1 o2 : Cop} {a b d : Expr} {f g h : WE} {pos : Pos} (hu : X.A.units + 66 < cLine) (h1 : SE1 X f a) (h2 : SE1 X g b) (h3 : SE1 X h d) (hm : lastMarks [copOf o1, copOf o2] [b, d] = false) :
    SE X (.ofB fun σ M Q => f σ M fun x M1 => g σ M1 fun y M2 => cmpW o1 x y M2 fun k M3 => if k = true then h σ M3 fun z M4 => cmpW o2 y z M4 Q else Q false M3) (.Compare a [copOf o1, copOf o2] [b, d] pos) := by
  obtain ⟨t1, p1, q1⟩ := h1
  obtain ⟨t2, p2, q2⟩ := h2
  obtain ⟨t3, p3, q3⟩ := h3
  have ev : EvE (kwX X) (tChain (R2s (kwX X) (asB (cmpW o1))) (R2s (kwX X) (asB (cmpW o2))) t1 t2 t3) (fun σ M Q => f σ M fun x M1 => g σ M1 fun y M2 => cmpW o1 x y M2 fun k M3 => if k = true then h σ M3 fun z M4 => cmpW o2 y z M4 fun b M => Q (.bl b) M else Q (.bl false) M3) := fun σ H σu M Qu Q rs S hf c => by
    refine q1 σ H σu M _ _ rs S hf fun v H1 u M1 st S1 r hq => ?_
    refine q2 σ H1 σu M1 _ _ (rs.stp S st) S1 hq fun v2 H2 u2 M2 st2 S2 r2 hq2 => ?_
    refine ⟨u, u2, M2, fun b' M3 => ∃ k, b' = .bl k ∧ (if k = true then h σu M3 fun z M4 => cmpW o2 u2 z M4 fun b M => Qu (.bl b) M else Qu (.bl false) M3), S2, r.stp S1 st2, r2, ?_, ?_⟩
    · have e : (fun (k : Bool) (M3 : Hm) => ∃ k', U.bl k = .bl k' ∧ (if k' = true then h σu M3 fun z M4 => cmpW o2 u2 z M4 fun b M => Qu (.bl b) M else Qu (.bl false) M3)) = (fun k M3 => if k = true then h σu M3 fun z M4 => cmpW o2 u2 z M4 fun b M => Qu (.bl b) M else Qu (.bl false) M3) := by
        funext k M3
        exact propext ⟨fun ⟨k', e, q⟩ => by cases e; exact q, fun q => ⟨k, rfl, q⟩⟩
      show cmpW o1 u u2 M2 _
      rw [e]
      exact hq2
    · intro v3 H3 u3 M3 st3 S3 r3 hq3
      obtain ⟨k, rfl, hq3⟩ := hq3
      cases r3
      refine ⟨k, rfl, ?_⟩
      cases k with
      | false => exact c _ _ _ _ ((st.trans S st2).trans S st3) S3 (.bl _) hq3
      | true =>
        refine q3 σ H3 σu M3 _ _ (rs.stp S ((st.trans S st2).trans S st3)) S3 hq3 fun v4 H4 u4 M4 st4 S4 r4 hq4 => ?_
        exact ⟨u2, u4, M4, Qu, S4, (r2.stp S2 st3).stp S3 st4, r4, hq4, c.tr S (((st.trans S st2).trans S st3).trans S st4)⟩
  refine ⟨⟨_, pe_chain (op_cmpS hu o1) (op_cmpS hu o2) p1 p2 p3 hm, ?_⟩, ⟨_, pt_chain (op_cmpS hu o1) (op_cmpS hu o2) p1 p2 p3 hm, ev_test ?_⟩⟩
  · intro σ H σu M Qu Q rs S hf c
    exact ev σ H σu M Qu Q rs S hf c
  · intro σ H σu M Qu Q rs S hf c
    exact ev σ H σu M Qu Q rs S hf c
theorem rel_non {K : Kw} {H : Hp} {v : V} {u : U} (r : Rel K H v u) : decide (v = .non) = decide (u = .non) := by
  cases r <;> simp
theorem ev_isN {f : WE} {t : TE} (q1 : EvE (kwX X) t f) : EvE (kwX X) (tIsN t) (fun σ M Q => f σ M fun x M1 => Q (.bl (decide (x = .non))) M1) := fun σ H σu M Qu Q rs S hf c => by
  refine q1 σ H σu M _ _ rs S hf fun v H1 u M1 st S1 r hq => ?_
  rw [rel_non r]
  exact c _ _ _ _ st S1 (.bl _) hq
theorem ev_notN {f : WE} {t : TE} (q1 : EvE (kwX X) t f) : EvE (kwX X) (tNotN t) (fun σ M Q => f σ M fun x M1 => Q (.bl (!decide (x = .non))) M1) := fun σ H σu M Qu Q rs S hf c => by
  refine q1 σ H σu M _ _ rs S hf fun v H1 u M1 st S1 r hq => ?_
  rw [rel_non r]
  exact c _ _ _ _ st S1 (.bl _) hq
theorem se_isN {a : Expr} {f : WE} {k : Nat} {p1 pos : Pos} (h1 : SE1 X f a) : SE X (.ofB fun σ M Q => f σ M fun x M1 => Q (decide (x = .non)) M1) (.Compare a [.Is] [.Constant .none k p1] pos) := by
  obtain ⟨t1, p1, q1⟩ := h1
  exact ⟨⟨_, pe_cmp (pc_isN p1) rfl, ev_isN q1⟩, ⟨_, pt_cmp (pc_isN p1) rfl, ev_test (f := fun σ M Q => f σ M fun x M1 => Q (decide (x = .non)) M1) (ev_isN q1)⟩⟩
theorem se_notN {a : Expr} {f : WE} {k : Nat} {p1 pos : Pos} (h1 : SE1 X f a) : SE X (.ofB fun σ M Q => f σ M fun x M1 => Q (!decide (x = .non)) M1) (.Compare a [.IsNot] [.Constant .none k p1] pos) := by
  obtain ⟨t1, p1, q1⟩ := h1
  exact ⟨⟨_, pe_cmp (pc_notN p1) rfl, ev_notN q1⟩, ⟨_, pt_cmp (pc_notN p1) rfl, ev_test (f := fun σ M Q => f σ M fun x M1 => Q (!decide (x = .non)) M1) (ev_notN q1)⟩⟩
theorem se_isB {neg b : Bool} {a : Expr} {f : WE} {k : Nat} {p1 pos : Pos} (h1 : SE1 X f a) :
    SE X (.ofB fun σ M Q => f σ M fun x M1 => ∃ c, x = .bl c ∧ Q (if neg then !decide (c = b) else decide (c = b)) M1) (.Compare a [if neg then .IsNot else .Is] [.Constant (.bool b) k p1] pos) := by
  obtain ⟨t1, p1, q1⟩ := h1
  cases neg with
  | false =>
    have ev : EvE (kwX X) (tOp rIsB t1 (tC (.bl b))) (fun σ M Q => f σ M fun x M1 => ∃ c, x = .bl c ∧ Q (.bl (decide (c = b))) M1) := fun σ H σu M Qu Q rs S hf c => by
      refine q1 σ H σu M _ _ rs S hf fun v H1 u M1 st S1 r hq => ?_
      obtain ⟨d, rfl, q⟩ := hq
      cases r
      exact ⟨d, b, rfl, rfl, c _ _ _ _ st S1 (.bl _) q⟩
    exact ⟨⟨_, pe_cmpR op_isBl p1 pe_bl (nomark _), ev⟩, ⟨_, pt_cmpR op_isBl p1 pe_bl (nomark _), ev_test (f := fun σ M Q => f σ M fun x M1 => ∃ c, x = .bl c ∧ Q (decide (c = b)) M1) ev⟩⟩
  | true =>
    have ev : EvE (kwX X) (tOp rNotB t1 (tC (.bl b))) (fun σ M Q => f σ M fun x M1 => ∃ c, x = .bl c ∧ Q (.bl (!decide (c = b))) M1) := fun σ H σu M Qu Q rs S hf c => by
      refine q1 σ H σu M _ _ rs S hf fun v H1 u M1 st S1 r hq => ?_
      obtain ⟨d, rfl, q⟩ := hq
      cases r
      exact ⟨d, b, rfl, rfl, c _ _ _ _ st S1 (.bl _) q⟩
    exact ⟨⟨_, pe_cmpR op_notBl p1 pe_bl (nomark _), ev⟩, ⟨_, pt_cmpR op_notBl p1 pe_bl (nomark _), ev_test (f := fun σ M Q => f σ M fun x M1 => ∃ c, x = .bl c ∧ Q (!decide (c = b)) M1) ev⟩⟩
theorem se_not {a : Expr} {W : Wp} {pos : Pos} (h : SE X W a) : SE X ⟨fun σ M Q => W.e σ M fun x M1 => truW x M1 fun b M2 => Q (.bl (!b)) M2, fun σ M Q => W.t σ M fun b M1 => Q (!b) M1, fun _ _ _ => False, fT, fT, fE, fE, fI⟩ (.UnaryOp .Not a pos) := by
  obtain ⟨⟨t1, p1, q1⟩, ⟨t2, p2, q2⟩⟩ := h
  refine ⟨⟨_, pe_notT p1, fun σ H σu M Qu Q rs S hf c => ?_⟩, ⟨_, pt_not p2, fun σ H σu M Qu Q rs S hf c => ?_⟩⟩
  · exact q1 σ H σu M _ _ rs S hf fun v H1 u M1 st S1 r hq => tru_of (Q := fun b H => Q (.bl (!b)) H) ⟨u, M1, fun b M2 => Qu (.bl (!b)) M2, S1, r, hq, fun b H' M' st' S' q' => c _ _ _ _ (st.trans S st') S' (.bl _) q'⟩
  · exact q2 σ H σu M _ _ rs S hf fun b H1 M1 st S1 hq => c _ _ _ st S1 hq
theorem se_ite {c0 a b : Expr} {fc : WT} {f g : WE} {pos : Pos} (hc : ST X fc c0) (h1 : SE1 X f a) (h2 : SE1 X g b) :
    SE1 X (fun σ M Q => fc σ M fun k M1 => if k = true then f σ M1 Q else g σ M1 Q) (.IfExp c0 a b pos) := by
  obtain ⟨t0, p0, q0⟩ := hc
  obtain ⟨t1, p1, q1⟩ := h1
  obtain ⟨t2, p2, q2⟩ := h2
  refine ⟨_, pe_ifExp p0 p1 p2, fun σ H σu M Qu Q rs S hf c => ?_⟩
  refine q0 σ H σu M _ _ rs S hf fun k H1 M1 st S1 hq => ?_
  cases k with
  | true => exact q1 σ H1 σu M1 Qu Q (rs.stp S st) S1 hq (c.tr S st)
  | false => exact q2 σ H1 σu M1 Qu Q (rs.stp S st) S1 hq (c.tr S st)
def notSlice : Expr → Bool
  | .Slice .. => false
  | _ => true
theorem plainIx_of {e : Expr} (h : notSlice e = true) : PlainIx e := fun o i => by
  cases e <;> first | (cases h; done) | rfl
theorem se_ix {a b : Expr} {f g : WE} {pos : Pos} (hu : X.A.units + 66 < cLine) (hs : notSlice b = true) (h1 : SE1 X f a) (h2 : SE1 X g b) : SE1 X (fun σ M Q => f σ M fun x M1 => g σ M1 fun y M2 => ixW x y M2 Q) (.Subscript a b pos) := by
  obtain ⟨t1, p1, q1⟩ := h1
  obtain ⟨t2, p2, q2⟩ := h2
  exact ⟨_, pe_ix (ix_S hu) p1 p2 (plainIx_of hs), two q1 q2⟩
theorem so_none : SO X (fun _ M Q => Q none M) none := ⟨_, po_none, fun σ H σu M Qu Q rs S hf c => c _ _ _ (Stp.refl H M) S hf⟩
theorem so_some {e : Expr} {f : WE} (h : SE1 X f e) : SO X (fun σ M Q => f σ M fun x M1 => ∃ i, x = .int i ∧ Q (some i) M1) (some e) := by
  obtain ⟨t, p, q⟩ := h
  refine ⟨_, po_some p, fun σ H σu M Qu Q rs S hf c => ?_⟩
  refine q σ H σu M _ _ rs S hf fun v H1 u M1 st S1 r hq => ?_
  obtain ⟨i, rfl, q⟩ := hq
  cases r
  exact ⟨i, rfl, c _ _ _ st S1 q⟩
theorem se_slice {a : Expr} {lo hi : Option Expr} {f : WE} {g h : WO} {p2 pos : Pos} (h1 : SE1 X f a) (h2 : SO X g lo) (h3 : SO X h hi) :
    SE1 X (fun σ M Q => f σ M fun x M1 => g σ M1 fun l M2 => h σ M2 fun u M3 => sliceW x l u M3 Q) (.Subscript a (.Slice lo hi none p2) pos) := by
  obtain ⟨t1, p1, q1⟩ := h1
  obtain ⟨t2, p2, q2⟩ := h2
  obtain ⟨t3, p3, q3⟩ := h3
  refine ⟨_, pe_slice sl_S p1 p2 p3, fun σ H σu M Qu Q rs S hf c => ?_⟩
  refine q1 σ H σu M _ _ rs S hf fun v H1 u M1 st S1 r hq => ?_
  refine q2 σ H1 σu M1 _ _ (rs.stp S st) S1 hq fun l H2 M2 st2 S2 hq2 => ?_
  refine q3 σ H2 σu M2 _ _ (rs.stp S (st.trans S st2)) S2 hq2 fun l3 H3 M3 st3 S3 hq3 => ?_
  exact ⟨u, M3, Qu, S3, (r.stp S1 st2).stp S2 st3, hq3, c.tr S ((st.trans S st2).trans S st3)⟩
/-- the promise of a def, said by values -/
def spOf (K : Kw) (g : List U → Hm → QU → Prop) : Sp := fun vs H Q _ => CRs K g vs H Q
theorem ev_call {g : WL} {t : TA} {r : List V → Hp → VK → Prop} {k : List U → Hm → QU → Prop} (q : EvL (kwX X) t g) (hr : ∀ vs H Q, CRs (kwX X) k vs H Q → r vs H Q) : EvE (kwX X) (fun σ H Q => t σ H fun vs H1 => r vs H1 Q) (fun σ M Q => g σ M fun xs M1 => k xs M1 Q) := fun σ H σu M Qu Q rs S hf c => by
  refine q σ H σu M _ _ rs S hf fun vs H1 us M1 st S1 r1 hq => ?_
  exact hr _ _ _ ⟨us, M1, Qu, S1, r1, hq, c.tr S st⟩
theorem se_blt {f : Bfn} {v : Value} {x : Str} {e : Expr} {es : List Expr} {g : WL} {p pos : Pos} (hc : X.calm = true) (hu : X.A.units + 66 < cLine) (hb : bfnV f = some v) (hg : Gl X x) (hm : X.mg x = none) (hv : bootBuiltins x = some v) (hn : x ≠ "__name__") (hdb : (x == ("__debug__" : Str)) = false)
    (hs : (e :: es).all (fun e => !isStar e) = true) (h : SA X g (e :: es)) : SE1 X (fun σ M Q => g σ M fun xs M1 => bltW f xs M1 Q) (.Call (.Name x p) (e :: es) [] pos) := by
  obtain ⟨t, pt, q⟩ := h
  have hs2 : isStar e = false ∧ es.all (fun e => !isStar e) = true := by
    rw [List.all_cons, Bool.and_eq_true] at hs
    exact ⟨by simpa using hs.1, hs.2⟩
  have hr := cr_S (X := X) hc hu hb
  have bl : ∀ id, v = .builtin id → SE1 X (fun σ M Q => g σ M fun xs M1 => bltW f xs M1 Q) (.Call (.Name x p) (e :: es) [] pos) := fun id ev => by
    subst ev
    exact ⟨_, pe_callB hr hg hm hv pt hn hdb (star_cons hs2.1) (star_plain hs2.2), ev_call q fun _ _ _ z => z⟩
  have ty : ∀ id, v = .type id → SE1 X (fun σ M Q => g σ M fun xs M1 => bltW f xs M1 Q) (.Call (.Name x p) (e :: es) [] pos) := fun id ev => by
    subst ev
    exact ⟨_, pe_callTy hr hg hm hv pt hn hdb (star_cons hs2.1) (star_plain hs2.2), ev_call q fun _ _ _ z => z⟩
  cases f <;> first | (cases hb; done) | (cases hb; first | exact bl _ rfl | exact ty _ rfl)
theorem se_call {k : Nat} {f : Addr} {fd : FuncData} {ps : List Str} {x : Str} {e : Expr} {es : List Expr} {g : WL} {c : List U → Hm → QU → Prop} {p pos : Pos} (F : FnOk X.prog X.w (kwX X) X.mg X.base CX0 k f fd ps (spOf (kwX X) c)) (hr : Room k X.A) (hg : Gl X x) (hm : X.mg x = some (.ref f))
    (hk : PySem.W.keepIn (kwX X) (.ref f) = true) (hb : Binds (kwX X) fd ps []) (hdb : (x == ("__debug__" : Str)) = false) (hs : (e :: es).all (fun e => !isStar e) = true) (h : SA X g (e :: es)) :
    SE1 X (fun σ M Q => g σ M fun xs M1 => c xs M1 Q) (.Call (.Name x p) (e :: es) [] pos) := by
  obtain ⟨t, pt, q⟩ := h
  have hs2 : isStar e = false ∧ es.all (fun e => !isStar e) = true := by
    rw [List.all_cons, Bool.and_eq_true] at hs
    exact ⟨by simpa using hs.1, hs.2⟩
  refine ⟨_, pe_call F hr hg hm hk hb .nil pass0 pt hdb (star_cons hs2.1) (star_plain hs2.2), fun σ H σu M Qu Q rs S hf ct => ?_⟩
  refine q σ H σu M _ _ rs S hf fun vs H1 us M1 st S1 r1 hq => ?_
  rw [List.append_nil]
  exact ⟨us, M1, Qu, S1, r1, hq, ct.tr S st⟩
theorem se_call0 {k : Nat} {f : Addr} {fd : FuncData} {ps : List Str} {x : Str} {c : List U → Hm → QU → Prop} {p pos : Pos} (F : FnOk X.prog X.w (kwX X) X.mg X.base CX0 k f fd ps (spOf (kwX X) c)) (hr : Room k X.A) (hg : Gl X x) (hm : X.mg x = some (.ref f))
    (hk : PySem.W.keepIn (kwX X) (.ref f) = true) (hb : Binds (kwX X) fd ps []) (hdb : (x == ("__debug__" : Str)) = false) :
    SE1 X (fun σ M Q => c [] M Q) (.Call (.Name x p) [] [] pos) :=
  ⟨_, pe_call0 F hr hg hm hk hb .nil pass0 hdb, fun σ H σu M Qu Q rs S hf ct => ⟨[], M, Qu, S, .nil, hf, ct⟩⟩
end
end Pl

set_option maxHeartbeats 400000
/-! enumerate over a list or a tuple -/
namespace Pl
section
open PySem PySem.W PySem.W.X PyProof.Rows L2
theorem wp_pure_eq {α : Type} {M : Model} {A : Around} {Q : α → Shared → Prop} {E : Value → Shared → Prop} {s : Shared} {m : Sem α} {a : α} (h : m = pure a) (q : Q a s) : wpAny M A m Q E s := by
  rw [h]
  exact wpAny_pure q
theorem wp_ite_any {α : Type} {M : Model} {A : Around} {Q : α → Shared → Prop} {E : Value → Shared → Prop} {s : Shared} {b : Bool} {t e : Sem α} (h1 : wpAny M A t Q E s) (h2 : wpAny M A e Q E s) : wpAny M A (if b = true then t else e) Q E s := by
  cases b
  · exact h2
  · exact h1
theorem meets_enumB {v : Value} {o : Obj} {H : Heap → Prop} (B : Begins v o H) : Meets (Builtin.«enumerate.__new__» { pos := [Value.type "enumerate", v] }) fun x R s => H s.heap ∧ R (.ok (.ret (.ref (s.heap.push o).objs.size))) { s with heap := (s.heap.push o).push ⟨.type "enumerate", none, .fields #[Value.none, Value.bool false, Value.ref s.heap.objs.size, rawInt 0, Value.none, Value.none], #[]⟩ } := by
  refine Meets.of_wp fun prog w A R s h => ?_
  obtain ⟨h1, h⟩ := h
  refine wpAny_bind (wpAny_bind (wpAny_pure (wpAny_ite_false (Eq.refl _) (wpAny_bind (wpAny_of_eq sub_enumerate (wpAny_ite_false (Eq.refl _) (wpAny_pure (wpAny_ite_true (Eq.refl _) (wpAny_bind (wpAny_bind (wpAny_stack_any fun st => wpAny_pure ?_)))))))))))
  refine wp_ite_any ?_ ?_
  · refine wpAny_bind ?_
    refine wp_pure_eq (a := (v, none)) rfl ?_
    refine wpAny_bind ?_
    refine B.iter _ _ _ _ _ _ h1 ?_
    refine wpAny_bind ?_
    unfold Builtin.SmallTypes.newRecord newObj
    apply wpAny_ite_false
    · exact rfl
    refine wpAny_bind ?_
    refine wpAny_alloc' ?_
    refine wpAny_pure ?_
    refine wpAny_pure ?_
    exact ⟨_, rfl, h⟩
  · refine wpAny_bind ?_
    refine wp_pure_eq (a := (v, none)) rfl ?_
    refine wpAny_bind ?_
    refine B.iter _ _ _ _ _ _ h1 ?_
    refine wpAny_bind ?_
    unfold Builtin.SmallTypes.newRecord newObj
    apply wpAny_ite_false
    · exact rfl
    refine wpAny_bind ?_
    refine wpAny_alloc' ?_
    refine wpAny_pure ?_
    refine wpAny_pure ?_
    exact ⟨_, rfl, h⟩
theorem call_enumB {prog : Program} {w : World} {A : Around} {E : Value → Shared → Prop} {s : Shared} {v : Value} {o : Obj} {H : Heap → Prop} {Q : Value → Shared → Prop} (B : Begins v o H) (h1 : H s.heap)
    (h : ∀ h' : Heap, IsEnum h' (s.heap.objs.size + 1) s.heap.objs.size 0 Value.none → h'.get? s.heap.objs.size = some o → h'.objs.size = s.heap.objs.size + 2 → (∀ (b : Addr) (o : Obj), s.heap.get? b = some o → h'.get? b = some o) → Q (Value.ref (s.heap.objs.size + 1)) { s with heap := h' }) :
    wpAny (model prog w) A (call (Value.type "enumerate") [v]) Q E s := by
  refine callType_new F.called_enumerate (of_decide_eq_true (id (Eq.refl true))) (F.typeCall_enumerate_1 v) (F.newCall_enumerate_1 v) (fun obj => F.args_object_init_2 obj v) F.entry_enumerate_new (meets_enumB B) ⟨h1, ?_⟩
  have hz := Heap.size_push s.heap o
  have he := Heap.get?_push_size (s.heap.push o) (o := ⟨.type "enumerate", none, .fields #[Value.none, Value.bool false, Value.ref s.heap.objs.size, rawInt 0, Value.none, Value.none], #[]⟩) rfl
  show Shared.TypeIs _ (Value.ref (s.heap.push o).objs.size) "enumerate" ∧ Q (Value.ref (s.heap.push o).objs.size) _
  rw [hz] at he ⊢
  refine ⟨⟨_, he, rfl⟩, h _ he (Heap.get?_push_of_some _ (Heap.get?_push_size s.heap B.free)) ?_ fun b o' x => Heap.get?_push_of_some _ (Heap.get?_push_of_some _ x)⟩
  rw [Heap.size_push, hz]
/-- the walk over a tuple by enumerate -/
def IteT (K : Frag) (a : Addr) : It := ⟨fun i H => ∃ xs x, SqT K H a xs ∧ xs[i]? = some x, fun i H v H' => ∃ (T : Addr) (x : V), v = V.ref T ∧ H T = none ∧ H' = upd H T (.tup [.int (i : Nat), x]) ∧ ∀ xs, SqT K H a xs → xs[i]? = some x, fun i H => ∃ xs, SqT K H a xs ∧ xs.length = i⟩
theorem turn_enumT {P : Program} {w : World} {K : Frag} {elts : List Expr} {kk : Nat} {tpos : Pos} (a e it : Addr) : Turn P w K (.Tuple elts kk tpos) (IteT K a) [e, it] e (fun i h => (∃ old, IsEnum h e it (i : Nat) old) ∧ h.IsTupleIter it a i ∧ e ≠ it ∧ e ≠ a ∧ it ≠ a) := by
  refine ⟨by simp, ?_, ?_, ?_, ?_, ?_⟩
  · intro i h ⟨⟨old, he⟩, ⟨o, ho, hc, hd⟩, _⟩ b hb
    rcases List.mem_cons.mp hb with hb | hb
    · subst hb; exact ⟨_, he, fun v q => nomatch q⟩
    · rw [List.mem_singleton] at hb; subst hb; exact ⟨o, ho, fun v q => by rw [hd] at q; cases q⟩
  · intro i h h' ⟨⟨old, he⟩, ⟨o, ho, hc, hd⟩, n⟩ k
    exact ⟨⟨old, k e (by simp) _ he⟩, ⟨o, k it (by simp) _ ho, hc, hd⟩, n⟩
  · intro X hP hw hK hc i pins s σ H E I hf st hg
    subst hP hw hK
    obtain ⟨⟨old, he⟩, hit, n1, n2, n3⟩ := st
    obtain ⟨xs, x, hq, hx⟩ := hg
    obtain ⟨its, rv, p, hz⟩ := I.tuple hq
    obtain ⟨u, hu, ru⟩ := Vals.get rv hx
    have hi : i < its.toArray.size := by
      rw [List.size_toArray]
      exact (List.getElem?_eq_some_iff.mp hu).1
    have W := WalksT.enumerateD (Draws.tuple (prog := X.prog) (w := X.w) (A := X.A.in1) (I.ok.hd hc) it a n3.symm its.toArray) e n1 (by simp [n1, n2]) (by simp)
    have pt : s.heap.IsTuple a its.toArray := p
    refine W.item i s _ E hi ⟨⟨old, he⟩, hit, pt⟩ fun T vals h' tk ⟨t, x', hx', ev⟩ hT hTup mid old' => ⟨.ref T, rfl, ?_⟩
    refine W.go elts kk tpos i T _ _ E mid fun h'' st'' old'' => ?_
    have ap := W.apart i T h' mid
    have ex' : u = x' := by
      have h2 : its.toArray[i]? = some x' := hx'
      rw [List.getElem?_toArray, hu] at h2
      exact Option.some.inj h2
    subst ex'
    obtain ⟨oT, hoT, hcT, nT, hdT⟩ := hTup
    have hT2 := old'' T oT ap hoT
    subst ev
    have new : ObjOk X.prog X.w (upd H T (.tup [.int (i : Nat), x])) h'' T (.tup [.int (i : Nat), x]) := ⟨of_decide_eq_true (id (Eq.refl true)), [Value.int (i : Nat) t, u], .cons ⟨t, rfl⟩ (.cons ru .nil), oT, hT2, hcT, nT, hdT⟩
    have hel : e < s.heap.objs.size := Heap.lt_size he
    have hil : it < s.heap.objs.size := by obtain ⟨o, ho, _⟩ := hit; exact Heap.lt_size ho
    have I1 := I.turnedNew (h' := h'') (t' := tk) (ch := [e, it]) (fun b ob hb q => old'' b ob hb (old' b ob hb q)) hf hT new
    refine ⟨.ref T, upd H T (.tup [.int (i : Nat), x]), I1, rfl, ⟨T, x, rfl, I.hok.fresh hT, rfl, fun ys hy => by rw [I.tuple_inj hy hq]; exact hx⟩, ?_, fun b hb => ?_⟩
    · exact ⟨st''.1, st''.2.1, n1, n2, n3⟩
    · have hb' : b < s.heap.objs.size := by
        rcases List.mem_cons.mp hb with hb | hb
        · subst hb; exact hel
        · rw [List.mem_singleton] at hb; subst hb; exact hil
      rw [upd_ne (Nat.ne_of_lt (Nat.lt_of_lt_of_le hb' hT))]
      exact (hf b hb).1
  · intro X hP hw hK hc i pins s σ H E I hf st hg
    subst hP hw hK
    obtain ⟨⟨old, he⟩, hit, n1, n2, n3⟩ := st
    obtain ⟨xs, hq, hle⟩ := hg
    obtain ⟨its, rv, p, hz⟩ := I.tuple hq
    have hn : its.toArray.size = i := by rw [List.size_toArray, ← Paired.length rv]; exact hle
    have D := Draws.tuple (prog := X.prog) (w := X.w) (A := X.A.in1) (I.ok.hd hc) it a n3.symm its.toArray
    have pt : s.heap.IsTuple a its.toArray := p
    obtain ⟨f0, f1, f2, f3, f4, f5⟩ := hf it (by simp)
    exact wpAny_pyNext_enum_endD D he (by rw [hn]; exact ⟨hit, pt⟩) fun h' eb => ⟨rfl, I.turned (fun b o hb q => eb b o hb q) f0 f1 f3 f4 f5⟩
  · intro A i s Q E ⟨⟨old, he⟩, _⟩ hQ
    exact wpAny_pyIter_enum he hQ
/-- enumerate over a list or a tuple -/
def iEn (K : Frag) (ta : TA) : TI := fun σ H R => ta σ H fun vs H1 => ∃ a : Addr, vs = [.ref a] ∧ (((∃ xs, SqL K H1 a xs) ∧ R (Ite K a) H1) ∨ ((∃ xs, SqT K H1 a xs) ∧ R (IteT K a) H1))
theorem pi_en {X : Cy} {e : Expr} {ta : TA} {p pos tpos : Pos} {elts : List Expr} {kk : Nat} (hg : Gl X "enumerate") (hm : X.mg "enumerate" = none) (ha : PA X [e] ta) (hs : starEach [e] X.env = [(false, eval e X.env)]) :
    PI X (.Tuple elts kk tpos) (.Call (.Name "enumerate" p) [e] [] pos) (iEn (kwX X) ta) := by
  refine ⟨fun pins s σ H R I h => ?_⟩
  refine Call_ (ld_blt I hg hm boot_enumerate (callWith_type1 (thn (ha.run pos pins s σ H _ I h) fun us s1 ⟨vs, H1, I1, r1, q1⟩ => ?_) hs rfl) (by decide +kernel) (by decide +kernel)) rfl
  obtain ⟨a, rfl, q⟩ := q1
  obtain ⟨u, rfl, ru⟩ := vals1 r1
  obtain rfl : u = Value.ref a := ru
  rcases q with ⟨⟨xs, hx⟩, q⟩ | ⟨⟨xs, hx⟩, q⟩
  · obtain ⟨its, rv, p, hz⟩ := I1.list hx
    refine call_enumerate_list p.isList fun h' he hit hsz hk => wpAny_pyIter_enum he ?_
    have I2 := I1.kept (t' := s1.toks) hk
    refine ⟨_, [s1.heap.objs.size + 1, s1.heap.objs.size], _, Ite (kwX X) a, H1, rfl, I2, turn_enum a _ _, ⟨⟨_, he⟩, hit, Nat.succ_ne_self _⟩, fun b hb => ?_, q⟩
    have hle : s1.heap.objs.size ≤ b := by
      rcases List.mem_cons.mp hb with hb | hb
      · subst hb; exact Nat.le_add_right _ _
      · rw [List.mem_singleton] at hb; subst hb; exact Nat.le_refl _
    exact I1.fpOk hle (I1.hok.fresh hle)
  · obtain ⟨its, rv, p, hz⟩ := I1.tuple hx
    have pt : s1.heap.IsTuple a its.toArray := p
    have ha : a < s1.heap.objs.size := by obtain ⟨o, ho, _⟩ := pt; exact Heap.lt_size ho
    refine call_enumB (begins_tuple a its.toArray) pt fun h' he ho hsz hk => wpAny_pyIter_enum he ?_
    have I2 := I1.kept (t' := s1.toks) hk
    refine ⟨_, [s1.heap.objs.size + 1, s1.heap.objs.size], _, IteT (kwX X) a, H1, rfl, I2, turn_enumT a _ _, ⟨⟨_, he⟩, ⟨_, ho, rfl, rfl⟩, Nat.succ_ne_self _, (Nat.ne_of_lt (Nat.lt_succ_of_lt ha)).symm, (Nat.ne_of_lt ha).symm⟩, fun b hb => ?_, q⟩
    have hle : s1.heap.objs.size ≤ b := by
      rcases List.mem_cons.mp hb with hb | hb
      · subst hb; exact Nat.le_add_right _ _
      · rw [List.mem_singleton] at hb; subst hb; exact Nat.le_refl _
    exact I1.fpOk hle (I1.hok.fresh hle)
end
end Pl

set_option maxHeartbeats 4000000
/-! methods, isinstance, what is walked, comprehensions -/
namespace Pl
open PySem L2
section
variable {X : Cy}
theorem few_args {env : Env} {pos : Pos} {es : List Expr} (h : es.all (fun e => !isStar e) = true) (hl : es.length < 10) :
    ((backTo pos (starEach es env)).all (fun x => !x.1) && (backToKw pos (keywordEach [] env)).all (fun x => x.1.isSome)
      && decide (es.length + ([] : List Keyword).length + (if ([] : List Keyword).isEmpty then 0 else 1) < 30)) = true := by
  have h1 : (backTo pos (starEach es env)).all (fun x => !x.1) = true := by
    have h2 : ∀ es : List Expr, es.all (fun e => !isStar e) = true → (backTo pos (starEach es env)).all (fun x => !x.1) = true := by
      intro es
      induction es with
      | nil => intro _; rfl
      | cons e es ih =>
        intro h
        rw [List.all_cons, Bool.and_eq_true] at h
        rw [star_cons (by simpa using h.1)]
        exact ih h.2
    exact h2 es h
  rw [h1]
  simp [backToKw, keywordEach]
  omega
theorem rcv_ty {K : Kw} {m : Mfn} {T : String} {n : Str} {id : String} {x : V} {u : U} {H : Hp} {M : Hm} (S : Sim K H M) (r : Rel K H x u) (h : mfnT m = some (T, n, id)) (q : rcvW m u M) : tyV K T x H := by
  unfold mfnT at h
  unfold rcvW at q
  split at h <;> first | (cases h; done) | skip
  · cases h
    obtain ⟨p, us, rfl, e⟩ := q
    cases r
    obtain ⟨vs, e2, _⟩ := S _ _ e
    exact .inl ⟨rfl, vs, .inl (.inl e2)⟩
  · cases h
    obtain ⟨p, us, rfl, e⟩ := q
    cases r
    obtain ⟨vs, e2, _⟩ := S _ _ e
    exact .inl ⟨rfl, vs, .inl (.inl e2)⟩
  · cases h
    obtain ⟨p, us, rfl, e⟩ := q
    cases r
    obtain ⟨vs, e2, _⟩ := S _ _ e
    exact .inl ⟨rfl, vs, .inl (.inl e2)⟩
  · cases h
    obtain ⟨p, us, rfl, e⟩ := q
    cases r
    obtain ⟨vs, e2, _⟩ := S _ _ e
    exact .inl ⟨rfl, vs, .inl (.inl e2)⟩
  · cases h
    obtain ⟨p, us, rfl, e⟩ := q
    cases r
    obtain ⟨vs, e2, _⟩ := S _ _ e
    exact .inl ⟨rfl, vs, .inl (.inl e2)⟩
  · cases h
    obtain ⟨s, rfl⟩ := q
    cases r
    exact rfl
  · cases h
    obtain ⟨p, ks, rfl, e⟩ := q
    cases r
    obtain ⟨kvs, e2, _⟩ := S _ _ e
    exact .inr (.inr (.inl ⟨rfl, .inr ⟨kvs, e2⟩⟩))
theorem mt_S (hu : X.A.units + 66 < cLine) (m : Mfn) {T : String} {n : Str} {id : String} (h : mfnT m = some (T, n, id)) : PlainAttrs T ∧ Slot T n id ∧ typeOf (.builtin id) = pure (.type "method_descriptor") ∧ MtR X id (MRs (kwX X) (mthW m)) := by
  unfold mfnT at h
  split at h <;> first | (cases h; done) | skip
  · cases h; exact ⟨PySem.F.plainAttrs_list, PySem.F.slot_list_append, PySem.F.type_list_append, mt_appendS⟩
  · cases h; exact ⟨PySem.F.plainAttrs_list, PySem.F.slot_list_extend, PySem.F.type_list_extend, mt_extendS⟩
  · cases h; exact ⟨PySem.F.plainAttrs_list, PySem.F.slot_list_pop, PySem.F.type_list_pop, mt_popS⟩
  · cases h; exact ⟨PySem.F.plainAttrs_list, PySem.F.slot_list_pop, PySem.F.type_list_pop, mt_popAtS⟩
  · cases h; exact ⟨PySem.F.plainAttrs_list, PySem.F.slot_list_index, PySem.F.type_list_index, mt_indexS hu⟩
  · cases h; exact ⟨PySem.F.plainAttrs_str, PySem.F.slot_str_split, PySem.F.type_str_split, mt_splitS⟩
  · cases h; exact ⟨PySem.F.plainAttrs_dict, PySem.F.slot_dict_pop, PySem.F.type_dict_pop, mt_pop2S hu⟩
def notSup : Expr → Bool
  | .Call (.Name id _) [] [] _ => id != "super"
  | _ => true
theorem base_of {o : Expr} {n : Str} {env : Env} (h : notSup o = true) : attributeBase o n env (eval o env) = eval o env := by
  unfold attributeBase
  split
  · rename_i id p pos
    have h2 : (id != "super") = true := h
    simp [h2]
  · rfl
theorem se_mth {m : Mfn} {T : String} {n : Str} {id : String} {o : Expr} {es : List Expr} {f : WE} {g : WL} {apos pos : Pos} (hu : X.A.units + 66 < cLine) (hm : mfnT m = some (T, n, id)) (hs : es.all (fun e => !isStar e) = true) (hl : es.length < 10) (hline : (apos.endLine == pos.line) = true) (hb : notSup o = true)
    (h1 : SE1 X f o) (h2 : SA X g es) (hg0 : es = [] → g = fun _ M Q => Q [] M) : SE1 X (fun σ M Q => f σ M fun x M1 => rcvW m x M1 ∧ g σ M1 fun xs M2 => mthW m x xs M2 Q) (.Call (.Attribute o n apos) es [] pos) := by
  obtain ⟨t1, p1, q1⟩ := h1
  obtain ⟨t2, p2, q2⟩ := h2
  obtain ⟨pa, sl, ty, mt⟩ := mt_S (X := X) hu m hm
  cases es with
  | nil =>
    rw [hg0 rfl]
    refine ⟨_, pe_bm0 pa sl ty mt p1 (base_of hb) hline, fun σ H σu M Qu Q rs S hf c => ?_⟩
    refine q1 σ H σu M _ _ rs S hf fun v H1 u M1 st S1 r hq => ?_
    exact ⟨rcv_ty S1 r hm hq.1, u, [], M1, Qu, S1, r, .nil, hq.2, c.tr S st⟩
  | cons e es =>
    have hs2 : isStar e = false ∧ es.all (fun e => !isStar e) = true := by
      rw [List.all_cons, Bool.and_eq_true] at hs
      exact ⟨by simpa using hs.1, hs.2⟩
    refine ⟨_, pe_bm pa sl ty mt p1 p2 (base_of hb) (few_args hs hl) hline (star_cons hs2.1) (star_plain hs2.2), fun σ H σu M Qu Q rs S hf c => ?_⟩
    refine q1 σ H σu M _ _ rs S hf fun v H1 u M1 st S1 r hq => ?_
    refine ⟨rcv_ty S1 r hm hq.1, ?_⟩
    refine q2 σ H1 σu M1 _ _ (rs.stp S st) S1 hq.2 fun vs H2 us M2 st2 S2 rl hq2 => ?_
    exact ⟨u, us, M2, Qu, S2, r.stp S1 st2, rl, hq2, c.tr S (st.trans S st2)⟩
theorem se_dget {o e d : Expr} {f g h : WE} {apos pos : Pos} (hu : X.A.units + 66 < cLine) (hs : isStar e = false) (hs2 : isStar d = false) (hline : (apos.endLine == pos.line) = true) (hb : notSup o = true) (h1 : SE1 X f o) (h2 : SE1 X g e) (h3 : SE1 X h d) :
    SE1 X (fun σ M Q => f σ M fun x M1 => isDW x M1 ∧ g σ M1 fun y M2 => h σ M2 fun v M3 => dgetW x y v M3 Q) (.Call (.Attribute o "get" apos) [e, d] [] pos) := by
  obtain ⟨t1, p1, q1⟩ := h1
  obtain ⟨t2, p2, q2⟩ := h2
  obtain ⟨t3, p3, q3⟩ := h3
  have hall : [e, d].all (fun e => !isStar e) = true := by simp [hs, hs2]
  refine ⟨_, pe_dget2 (by omega) p1 p2 p3 ⟨base_of hb, few_args hall (by simp), hline, by rw [star_cons hs, star_cons hs2]; rfl⟩, fun σ H σu M Qu Q rs S hf c => ?_⟩
  refine q1 σ H σu M _ _ rs S hf fun v H1 u M1 st S1 r hq => ?_
  obtain ⟨⟨p, z, t, ks, rfl, hm⟩, hq⟩ := hq
  cases r
  have hd : IsD H1 p := by
    have q := S1 p _ hm
    cases t with
    | false => obtain ⟨kvs, e, _⟩ := q; exact .inl ⟨kvs, fz_rd e⟩
    | true => obtain ⟨kvs, e, _⟩ := q; exact .inr ⟨kvs, fz_rd e⟩
  refine ⟨p, rfl, hd, ?_⟩
  refine q2 σ H1 σu M1 _ _ (rs.stp S st) S1 hq fun y H2 uy M2 st2 S2 ry hq2 => ?_
  refine q3 σ H2 σu M2 _ _ (rs.stp S (st.trans S st2)) S2 hq2 fun w H3 uw M3 st3 S3 rw' hq3 => ?_
  obtain ⟨p', z', t', ks', e, hm3, hk, hq3⟩ := hq3
  cases e
  obtain ⟨o', hg, ho⟩ := dget_of S3 hm3 hk (ry.stp S2 st3)
  have cc := c.tr S ((st.trans S st2).trans S st3)
  refine ⟨o', hg, ?_⟩
  rcases ho with ⟨rfl, hn⟩ | ⟨v', u', rfl, hs', rv⟩
  · rw [hn] at hq3
    exact cc.at_ S3 rw' hq3
  · rw [hs'] at hq3
    exact cc.at_ S3 rv hq3
theorem se_dget1 {o e : Expr} {f g : WE} {apos pos : Pos} (hu : X.A.units + 66 < cLine) (hs : isStar e = false) (hline : (apos.endLine == pos.line) = true) (hb : notSup o = true) (h1 : SE1 X f o) (h2 : SE1 X g e) :
    SE1 X (fun σ M Q => f σ M fun x M1 => isDW x M1 ∧ g σ M1 fun y M2 => dgetW x y .non M2 Q) (.Call (.Attribute o "get" apos) [e] [] pos) := by
  obtain ⟨t1, p1, q1⟩ := h1
  obtain ⟨t2, p2, q2⟩ := h2
  have hall : [e].all (fun e => !isStar e) = true := by simp [hs]
  refine ⟨_, pe_dget1 (by omega) p1 p2 ⟨base_of hb, few_args hall (by simp), hline, by rw [star_cons hs]; rfl⟩, fun σ H σu M Qu Q rs S hf c => ?_⟩
  refine q1 σ H σu M _ _ rs S hf fun v H1 u M1 st S1 r hq => ?_
  obtain ⟨⟨p, z, t, ks, rfl, hm⟩, hq⟩ := hq
  cases r
  have hd : IsD H1 p := by
    have q := S1 p _ hm
    cases t with
    | false => obtain ⟨kvs, e, _⟩ := q; exact .inl ⟨kvs, fz_rd e⟩
    | true => obtain ⟨kvs, e, _⟩ := q; exact .inr ⟨kvs, fz_rd e⟩
  refine ⟨p, rfl, hd, ?_⟩
  refine q2 σ H1 σu M1 _ _ (rs.stp S st) S1 hq fun y H2 uy M2 st2 S2 ry hq2 => ?_
  obtain ⟨p', z', t', ks', e, hm3, hk, hq3⟩ := hq2
  cases e
  obtain ⟨o', hg, ho⟩ := dget_of S2 hm3 hk ry
  have cc := c.tr S (st.trans S st2)
  refine ⟨o', hg, ?_⟩
  rcases ho with ⟨rfl, hn⟩ | ⟨v', u', rfl, hs', rv⟩
  · rw [hn] at hq3
    exact cc.at_ S2 .non hq3
  · rw [hs'] at hq3
    exact cc.at_ S2 rv hq3
theorem se_isinst {t : String} {x z : Str} {a : Expr} {f : WE} {p p2 pos : Pos} (ht : tyOk t = true) (hx : x = "isinstance") (hz : z = Str.ofString t) (hg : Gl X x) (hm : X.mg x = none) (hg2 : Gl X z) (hm2 : X.mg z = none) (hs : isStar a = false) (h1 : SE1 X f a) :
    SE X (.ofE fun σ M Q => f σ M fun x M1 => isTyW x t M1 fun b M2 => Q (.bl b) M2) (.Call (.Name x p) [a, .Name z p2] [] pos) := by
  obtain ⟨t1, p1, q1⟩ := h1
  subst hx hz
  have bz : bootBuiltins (Str.ofString t) = some (.type t) := by
    have ht2 : t = "tuple" ∨ t = "str" ∨ t = "int" ∨ t = "bool" ∨ t = "list" := by
      unfold tyOk at ht
      simp only [Bool.or_eq_true, beq_iff_eq] at ht
      rcases ht with (((h | h) | h) | h) | h
      · exact .inl h
      · exact .inr (.inl h)
      · exact .inr (.inr (.inl h))
      · exact .inr (.inr (.inr (.inl h)))
      · exact .inr (.inr (.inr (.inr h)))
    rcases ht2 with rfl | rfl | rfl | rfl | rfl <;> decide +kernel
  have nz : Str.ofString t ≠ "__name__" ∧ (Str.ofString t == ("__debug__" : Str)) = false := by
    have ht2 : t = "tuple" ∨ t = "str" ∨ t = "int" ∨ t = "bool" ∨ t = "list" := by
      unfold tyOk at ht
      simp only [Bool.or_eq_true, beq_iff_eq] at ht
      rcases ht with (((h | h) | h) | h) | h
      · exact .inl h
      · exact .inr (.inl h)
      · exact .inr (.inr (.inl h))
      · exact .inr (.inr (.inr (.inl h)))
      · exact .inr (.inr (.inr (.inr h)))
    rcases ht2 with rfl | rfl | rfl | rfl | rfl <;> decide +kernel
  have pz : PE X (.Name (Str.ofString t) p2) (tC (.ty t)) := pe_bltn hg2 hm2 bz rfl nz.1 nz.2
  have pall : PA X [a, .Name (Str.ofString t) p2] (tCons t1 (tCons (tC (.ty t)) tNil)) := pa_cons p1 (pa_cons pz pa_nil) (star_cons hs)
  refine SE.ofE rfl ⟨_, pe_callB call_isi hg hm (by decide +kernel) pall (by decide +kernel) (by decide +kernel) (star_cons hs) rfl, fun σ H σu M Qu Q rs S hf c => ?_⟩
  refine q1 σ H σu M _ _ rs S hf fun v H1 u M1 st S1 r hq => ?_
  obtain ⟨ty, b, h1, h2, h3⟩ := isTy_of (Q := fun b H => Q (.bl b) H) ht ⟨u, M1, fun b M2 => Qu (.bl b) M2, S1, r, hq, fun b H' M' st' S' q' => c _ _ _ _ (st.trans S st') S' (.bl b) q'⟩
  exact ⟨v, .ty t, ty, .type t, b, rfl, .ty t, h1, h2, h3⟩

/-! ### what is walked -/
def ItOk (K : Kw) (H0 : Hp) (M0 : Hm) (J : It) (items : List U) (g : Hm → Prop) : Prop := ∀ (i : Nat) (H : Hp) (M : Hm), Stp H0 M0 H M → Sim K H M → g M →
  (∀ u, items[i]? = some u → J.go i H ∧ ∀ x H', J.yld i H x H' → Stp H M H' M ∧ Sim K H' M ∧ Rel K H' x u) ∧ (items.length = i → J.stop i H)
abbrev QI := List U → (Hm → Prop) → ((Hm → Prop) → Hm → Prop) → Hm → Prop
def EvI (K : Kw) (t : TI) (f : WI) : Prop := ∀ (σ : L2.St) (H : Hp) (σu : SU) (M : Hm) (Qu : QI) (R : It → Hp → Prop), RelS K H σ σu → Sim K H M → f σu M Qu →
  (∀ J H' items g ex M', Stp H M H' M' → Sim K H' M' → ItOk K H' M' J items g → g M' → ex = (fun P => P) → Qu items g ex M' → R J H') → t σ H R
def SI (X : Cy) (tg iter : Expr) (f : WI) : Prop := ∃ t, PI X tg iter t ∧ EvI (kwX X) t f
theorem it_list {K : Kw} {H0 : Hp} {M0 : Hm} {p : Addr} {us : List U} : ItOk K H0 M0 (Itl K p) us (fun M => M p = some (.lst us)) := fun i H M st S hm => by
  obtain ⟨vs, e, r⟩ := S p _ hm
  refine ⟨fun u hu => ?_, fun hl => ⟨vs, .inl (.inl e), by rw [r.length]; exact Nat.le_of_eq hl⟩⟩
  obtain ⟨v, ev, rv⟩ := r.get hu
  refine ⟨⟨vs, v, .inl (.inl e), ev⟩, fun x H' ⟨eH, hx⟩ => ?_⟩
  subst eH
  have e2 := hx vs (.inl (.inl e))
  rw [ev] at e2
  cases e2
  exact ⟨Stp.refl _ M, S, rv⟩
theorem it_rol {K : Kw} {H0 : Hp} {M0 : Hm} {p : Addr} {vs : List V} {us : List U} (S0 : Sim K H0 M0) (t : Rl K H0 p vs) (r0 : RelL K H0 vs us) : ItOk K H0 M0 (Itl K p) us (fun _ => True) := fun i H M st S _ => by
  have t1 := t.stp S0 st
  have r := r0.stp S0 st
  refine ⟨fun u hu => ?_, fun hl => ⟨vs, t1.sq, by rw [r.length]; exact Nat.le_of_eq hl⟩⟩
  obtain ⟨v, ev, rv⟩ := r.get hu
  refine ⟨⟨vs, v, t1.sq, ev⟩, fun x H' ⟨eH, hx⟩ => ?_⟩
  subst eH
  have e2 := hx vs t1.sq
  rw [ev] at e2
  cases e2
  exact ⟨Stp.refl _ M, S, rv⟩
theorem it_tup {K : Kw} {H0 : Hp} {M0 : Hm} {p : Addr} {vs : List V} {us : List U} (S0 : Sim K H0 M0) (t : Tp K H0 p vs) (r0 : RelL K H0 vs us) : ItOk K H0 M0 (Itt K p) us (fun _ => True) := fun i H M st S _ => by
  have t1 := t.stp S0 st
  have r := r0.stp S0 st
  refine ⟨fun u hu => ?_, fun hl => ⟨vs, t1.sq, by rw [r.length]; exact Nat.le_of_eq hl⟩⟩
  obtain ⟨v, ev, rv⟩ := r.get hu
  refine ⟨⟨vs, v, t1.sq, ev⟩, fun x H' ⟨eH, hx⟩ => ?_⟩
  subst eH
  have e2 := hx vs t1.sq
  rw [ev] at e2
  cases e2
  exact ⟨Stp.refl _ M, S, rv⟩
theorem it_tupD {K : Kw} {H0 : Hp} {M0 : Hm} {p : Addr} {vs : List V} {us : List U} (S0 : Sim K H0 M0) (t : Td K H0 p vs) (r0 : RelL K H0 vs us) : ItOk K H0 M0 (Itt K p) us (fun _ => True) := fun i H M st S _ => by
  have t1 := t.stp S0 st
  have r := r0.stp S0 st
  refine ⟨fun u hu => ?_, fun hl => ⟨vs, t1.sq, by rw [r.length]; exact Nat.le_of_eq hl⟩⟩
  obtain ⟨v, ev, rv⟩ := r.get hu
  refine ⟨⟨vs, v, t1.sq, ev⟩, fun x H' ⟨eH, hx⟩ => ?_⟩
  subst eH
  have e2 := hx vs t1.sq
  rw [ev] at e2
  cases e2
  exact ⟨Stp.refl _ M, S, rv⟩
theorem it_rng {K : Kw} {H0 : Hp} {M0 : Hm} {a : Int} {n : Nat} : ItOk K H0 M0 (Itr a n) ((List.range n).map fun i => U.int (a + (i : Nat))) (fun _ => True) := fun i H M st S _ => by
  refine ⟨fun u hu => ?_, fun hl => ?_⟩
  rotate_left
  · have hl2 : n = i := by simpa using hl
    exact Nat.le_of_eq hl2
  obtain ⟨h1, h2⟩ := List.getElem?_eq_some_iff.mp hu
  have h3 : i < n := by simpa using h1
  refine ⟨h3, fun x H' ⟨eH, hx⟩ => ?_⟩
  subst eH hx
  rw [← h2]
  refine ⟨Stp.refl _ M, S, ?_⟩
  simp only [List.getElem_map, List.getElem_range]
  exact .int _
theorem enumU_get {l : List U} {i : Nat} {u : U} (h : (enumU l)[i]? = some u) : ∃ w, l[i]? = some w ∧ u = .tup [.int (i : Nat), w] := by
  unfold enumU at h
  rw [List.getElem?_map, List.getElem?_zipIdx] at h
  cases q : l[i]? with
  | none => rw [q] at h; cases h
  | some w =>
    rw [q] at h
    simp only [Option.map_some, Option.some.injEq, Nat.zero_add] at h
    exact ⟨w, rfl, h.symm⟩
theorem enumU_len (l : List U) : (enumU l).length = l.length := by unfold enumU; rw [List.length_map, List.length_zipIdx]
theorem it_enL {K : Kw} {H0 : Hp} {M0 : Hm} {p : Addr} {us : List U} : ItOk K H0 M0 (Ite K p) (enumU us) (fun M => M p = some (.lst us)) := fun i H M st S hm => by
  obtain ⟨vs, e, r⟩ := S p _ hm
  refine ⟨fun u hu => ?_, fun hl => ⟨vs, .inl (.inl e), by rw [r.length]; rw [enumU_len] at hl; exact Nat.le_of_eq hl⟩⟩
  obtain ⟨w, hw, rfl⟩ := enumU_get hu
  obtain ⟨v, ev, rv⟩ := r.get hw
  refine ⟨⟨vs, v, .inl (.inl e), ev⟩, fun x H' ⟨T, y, ex, hT, eH, hy⟩ => ?_⟩
  subst ex eH
  have e2 := hy vs (.inl (.inl e))
  rw [ev] at e2
  cases e2
  exact ⟨Stp.newT S hT, S.newT hT, .tup (.inl upd_same) (.cons (.int _) (.cons (rv.stp S (Stp.newT S hT)) .nil))⟩
theorem it_enR {K : Kw} {H0 : Hp} {M0 : Hm} {p : Addr} {vs : List V} {us : List U} (S0 : Sim K H0 M0) (t : Rl K H0 p vs) (r0 : RelL K H0 vs us) : ItOk K H0 M0 (Ite K p) (enumU us) (fun _ => True) := fun i H M st S _ => by
  have t1 := t.stp S0 st
  have r := r0.stp S0 st
  refine ⟨fun u hu => ?_, fun hl => ⟨vs, t1.sq, by rw [r.length]; rw [enumU_len] at hl; exact Nat.le_of_eq hl⟩⟩
  obtain ⟨w, hw, rfl⟩ := enumU_get hu
  obtain ⟨v, ev, rv⟩ := r.get hw
  refine ⟨⟨vs, v, t1.sq, ev⟩, fun x H' ⟨T, y, ex, hT, eH, hy⟩ => ?_⟩
  subst ex eH
  have e2 := hy vs t1.sq
  rw [ev] at e2
  cases e2
  exact ⟨Stp.newT S hT, S.newT hT, .tup (.inl upd_same) (.cons (.int _) (.cons (rv.stp S (Stp.newT S hT)) .nil))⟩
theorem it_enT {K : Kw} {H0 : Hp} {M0 : Hm} {p : Addr} {vs : List V} {us : List U} (S0 : Sim K H0 M0) (t : Tp K H0 p vs) (r0 : RelL K H0 vs us) : ItOk K H0 M0 (IteT K p) (enumU us) (fun _ => True) := fun i H M st S _ => by
  have t1 := t.stp S0 st
  have r := r0.stp S0 st
  refine ⟨fun u hu => ?_, fun hl => ⟨vs, t1.sq, by rw [r.length]; rw [enumU_len] at hl; exact hl⟩⟩
  obtain ⟨w, hw, rfl⟩ := enumU_get hu
  obtain ⟨v, ev, rv⟩ := r.get hw
  refine ⟨⟨vs, v, t1.sq, ev⟩, fun x H' ⟨T, y, ex, hT, eH, hy⟩ => ?_⟩
  subst ex eH
  have e2 := hy vs t1.sq
  rw [ev] at e2
  cases e2
  exact ⟨Stp.newT S hT, S.newT hT, .tup (.inl upd_same) (.cons (.int _) (.cons (rv.stp S (Stp.newT S hT)) .nil))⟩
theorem it_enTD {K : Kw} {H0 : Hp} {M0 : Hm} {p : Addr} {vs : List V} {us : List U} (S0 : Sim K H0 M0) (t : Td K H0 p vs) (r0 : RelL K H0 vs us) : ItOk K H0 M0 (IteT K p) (enumU us) (fun _ => True) := fun i H M st S _ => by
  have t1 := t.stp S0 st
  have r := r0.stp S0 st
  refine ⟨fun u hu => ?_, fun hl => ⟨vs, t1.sq, by rw [r.length]; rw [enumU_len] at hl; exact hl⟩⟩
  obtain ⟨w, hw, rfl⟩ := enumU_get hu
  obtain ⟨v, ev, rv⟩ := r.get hw
  refine ⟨⟨vs, v, t1.sq, ev⟩, fun x H' ⟨T, y, ex, hT, eH, hy⟩ => ?_⟩
  subst ex eH
  have e2 := hy vs t1.sq
  rw [ev] at e2
  cases e2
  exact ⟨Stp.newT S hT, S.newT hT, .tup (.inl upd_same) (.cons (.int _) (.cons (rv.stp S (Stp.newT S hT)) .nil))⟩
theorem si_enum {x : Str} {p pos tpos : Pos} {elts : List Expr} {kk : Nat} {a : Expr} {f : WE} (hx : x = "enumerate") (hg : Gl X x) (hm : X.mg x = none) (hs : isStar a = false) (h : SE1 X f a) :
    SI X (.Tuple elts kk tpos) (.Call (.Name x p) [a] [] pos) (fun σ M Q => f σ M fun x M1 => seqI x M1 fun us g ex M2 => Q (enumU us) g ex M2) := by
  subst hx
  obtain ⟨t, pt, q⟩ := h
  refine ⟨_, pi_en hg hm (pa_cons pt pa_nil (star_cons hs)) (star_cons hs), fun σ H σu M Qu R rs S hf c => ?_⟩
  refine q σ H σu M _ _ rs S hf fun v H1 u M1 st S1 r hq => ?_
  unfold seqI at hq
  split at hq
  · cases r with
    | tup t rl => exact ⟨_, rfl, .inr ⟨⟨_, t.sq⟩, c _ _ _ _ _ _ st S1 (it_enT S1 t rl) trivial rfl hq⟩⟩
  · cases r with
    | rol t rl => exact ⟨_, rfl, .inl ⟨⟨_, t.sq⟩, c _ _ _ _ _ _ st S1 (it_enR S1 t rl) trivial rfl hq⟩⟩
  · cases r with
    | dtp t rl => exact ⟨_, rfl, .inr ⟨⟨_, t.sq⟩, c _ _ _ _ _ _ st S1 (it_enTD S1 t rl) trivial rfl hq⟩⟩
  · cases r
    obtain ⟨us, hm1, hq⟩ := hq
    obtain ⟨vs, e, rl⟩ := S1 _ _ hm1
    exact ⟨_, rfl, .inl ⟨⟨vs, .inl (.inl e)⟩, c _ _ _ _ _ _ st S1 it_enL hm1 rfl hq⟩⟩
  · exact hq.elim
theorem zipU_get {l r : List U} {i : Nat} {u : U} (h : (zipU l r)[i]? = some u) : ∃ a b, l[i]? = some a ∧ r[i]? = some b ∧ u = .tup [a, b] := by
  unfold zipU at h
  rw [List.getElem?_map] at h
  cases q : (l.zip r)[i]? with
  | none => rw [q] at h; cases h
  | some w =>
    rw [q] at h
    cases h
    obtain ⟨h1, h2⟩ := List.getElem?_zip_eq_some.mp q
    exact ⟨w.1, w.2, h1, h2, rfl⟩
theorem zipU_len {l r : List U} {i : Nat} (h : (zipU l r).length = i) : l.length ≤ i ∨ r.length ≤ i := by
  unfold zipU at h
  rw [List.length_map, List.length_zip] at h
  omega
/-- what is a tuple, by its items -/
theorem tup_of {K : Kw} {H : Hp} {v : V} {u : U} {l : List U} (r : Rel K H v u) (h : tupOf u = some l) : ∃ p vs, v = .ref p ∧ (∀ M H' M', Sim K H M → Stp H M H' M' → SqT K H' p vs) ∧ RelL K H vs l := by
  cases r <;> first | (cases h; done) | skip
  · rename_i t rl
    cases h
    exact ⟨_, _, rfl, fun M H' M' S st => (t.stp S st).sq, rl⟩
  · rename_i t rl
    cases h
    exact ⟨_, _, rfl, fun M H' M' S st => (t.stp S st).sq, rl⟩
theorem it_zipT {K : Kw} {H0 : Hp} {M0 : Hm} {p q : Addr} {xs ys : List V} {us ws : List U} (S0 : Sim K H0 M0) (t1 : ∀ M H' M', Sim K H0 M → Stp H0 M H' M' → SqT K H' p xs) (t2 : ∀ M H' M', Sim K H0 M → Stp H0 M H' M' → SqT K H' q ys) (r1 : RelL K H0 xs us) (r2 : RelL K H0 ys ws) :
    ItOk K H0 M0 (RZ.ItzT K p q) (zipU us ws) (fun _ => True) := fun i H M st S _ => by
  have a1 := t1 _ _ _ S0 st
  have a2 := t2 _ _ _ S0 st
  have b1 := r1.stp S0 st
  have b2 := r2.stp S0 st
  refine ⟨fun u hu => ?_, fun hl => ⟨xs, ys, a1, a2, by rw [b1.length, b2.length]; exact zipU_len hl⟩⟩
  obtain ⟨a, b, ha, hb, rfl⟩ := zipU_get hu
  obtain ⟨v, ev, rv⟩ := b1.get ha
  obtain ⟨y, ey, ry⟩ := b2.get hb
  refine ⟨⟨xs, ys, v, y, a1, a2, ev, ey⟩, fun x H' ⟨T, x1, y1, ex, hT, eH, h1, h2⟩ => ?_⟩
  subst ex eH
  have e1 := h1 xs a1
  have e2 := h2 ys a2
  rw [ev] at e1
  rw [ey] at e2
  cases e1
  cases e2
  exact ⟨Stp.newT S hT, S.newT hT, .tup (.inl upd_same) (.cons (rv.stp S (Stp.newT S hT)) (.cons (ry.stp S (Stp.newT S hT)) .nil))⟩
theorem it_zipL {K : Kw} {H0 : Hp} {M0 : Hm} {p q : Addr} {us ws : List U} : ItOk K H0 M0 (Itz K p q) (zipU us ws) (fun M => M p = some (.lst us) ∧ M q = some (.lst ws)) := fun i H M st S hm => by
  obtain ⟨xs, e1, b1⟩ := S p _ hm.1
  obtain ⟨ys, e2, b2⟩ := S q _ hm.2
  have a1 : SqL K H p xs := .inl (.inl e1)
  have a2 : SqL K H q ys := .inl (.inl e2)
  refine ⟨fun u hu => ?_, fun hl => ⟨xs, ys, a1, a2, by rw [b1.length, b2.length]; exact zipU_len hl⟩⟩
  obtain ⟨a, b, ha, hb, rfl⟩ := zipU_get hu
  obtain ⟨v, ev, rv⟩ := b1.get ha
  obtain ⟨y, ey, ry⟩ := b2.get hb
  refine ⟨⟨xs, ys, v, y, a1, a2, ev, ey⟩, fun x H' ⟨T, x1, y1, ex, hT, eH, h1, h2⟩ => ?_⟩
  subst ex eH
  have e3 := h1 xs a1
  have e4 := h2 ys a2
  rw [ev] at e3
  rw [ey] at e4
  cases e3
  cases e4
  exact ⟨Stp.newT S hT, S.newT hT, .tup (.inl upd_same) (.cons (rv.stp S (Stp.newT S hT)) (.cons (ry.stp S (Stp.newT S hT)) .nil))⟩
theorem si_zip {x : Str} {p pos tpos : Pos} {elts : List Expr} {kk : Nat} {a b : Expr} {f g : WE} (hx : x = "zip") (hg : Gl X x) (hm : X.mg x = none) (hs : isStar a = false) (hs2 : isStar b = false) (h : SE1 X f a) (h2 : SE1 X g b) :
    SI X (.Tuple elts kk tpos) (.Call (.Name x p) [a, b] [] pos) (fun σ M Q => f σ M fun x M1 => g σ M1 fun y M2 => zipI x y M2 Q) := by
  subst hx
  obtain ⟨t, pt, q⟩ := h
  obtain ⟨t2, pt2, q2⟩ := h2
  refine ⟨_, RZ.pi_zipA hg hm (pa_cons pt (pa_cons pt2 pa_nil (star_cons hs2)) (star_cons hs)) (star_cons hs) (by rw [star_cons hs2]; rfl), fun σ H σu M Qu R rs S hf c => ?_⟩
  refine q σ H σu M _ _ rs S hf fun v H1 u M1 st S1 r hq => ?_
  refine q2 σ H1 σu M1 _ _ (rs.stp S st) S1 hq fun v2 H2 u2 M2 st2 S2 r2 hq2 => ?_
  have r' := r.stp S1 st2
  have s12 := st.trans S st2
  rcases hq2 with ⟨l, l', e1, e2, hq2⟩ | ⟨p1, p2, us, ws, rfl, rfl, m1, m2, hq2⟩
  · obtain ⟨a1, xs, rfl, t1, rl1⟩ := tup_of r' e1
    obtain ⟨a2, ys, rfl, t2, rl2⟩ := tup_of r2 e2
    exact ⟨a1, a2, xs, ys, rfl, .inr ⟨t1 _ _ _ S2 (Stp.refl _ _), t2 _ _ _ S2 (Stp.refl _ _), c _ _ _ _ _ _ s12 S2 (it_zipT S2 t1 t2 rl1 rl2) trivial rfl hq2⟩⟩
  · cases r'
    cases r2
    obtain ⟨xs, e1, rl1⟩ := S2 _ _ m1
    obtain ⟨ys, e2, rl2⟩ := S2 _ _ m2
    exact ⟨_, _, xs, ys, rfl, .inl ⟨.inl (.inl e1), .inl (.inl e2), c _ _ _ _ _ _ s12 S2 it_zipL ⟨m1, m2⟩ rfl hq2⟩⟩
/-- a list or a tuple (either is found when it is walked) -/
def iSq (K : Kw) (tl : TE) : TI := fun σ H R => tl σ H fun x H1 => ∃ a, x = .ref a ∧ (((∃ xs, SqL K H1 a xs) ∧ R (Itl K a) H1) ∨ ((∃ xs, SqT K H1 a xs) ∧ R (Itt K a) H1))
theorem pi_sq {tg l : Expr} {tl : TE} (hl : PE X l tl) : PI X tg l (iSq (kwX X) tl) := by
  refine ⟨fun pins s σ H R I h => ?_⟩
  refine thn (hl.run pins s σ H _ I h) fun v s1 ⟨x, H1, I1, r, q⟩ => ?_
  obtain ⟨a, rfl, q⟩ := q
  obtain rfl : v = Value.ref a := r
  rcases q with ⟨⟨xs, hx⟩, q⟩ | ⟨⟨xs, hx⟩, q⟩
  · obtain ⟨its, rv, p, hz⟩ := I1.list hx
    exact PySem.wpAny_pyIter_list p.isList (pi_one I1 _ (turn_list a _) ⟨_, Heap.get?_push_size _ rfl, rfl, rfl⟩ q)
  · obtain ⟨its, rv, p, hz⟩ := I1.tuple hx
    exact PySem.wpAny_pyIter_tuple (show s1.heap.IsTuple a its.toArray from p) (pi_one I1 _ (turn_tuple a _) ⟨_, Heap.get?_push_size _ rfl, rfl, rfl⟩ q)
theorem si_seq {tg l : Expr} {f : WE} (h : SE1 X f l) : SI X tg l (fun σ M Q => f σ M fun x M1 => seqI x M1 Q) := by
  obtain ⟨t, p, q⟩ := h
  refine ⟨_, pi_sq p, fun σ H σu M Qu R rs S hf c => ?_⟩
  refine q σ H σu M _ _ rs S hf fun v H1 u M1 st S1 r hq => ?_
  unfold seqI at hq
  split at hq
  · cases r with
    | tup t rl => exact ⟨_, rfl, .inr ⟨⟨_, t.sq⟩, c _ _ _ _ _ _ st S1 (it_tup S1 t rl) trivial rfl hq⟩⟩
  · cases r with
    | rol t rl => exact ⟨_, rfl, .inl ⟨⟨_, t.sq⟩, c _ _ _ _ _ _ st S1 (it_rol S1 t rl) trivial rfl hq⟩⟩
  · cases r with
    | dtp t rl => exact ⟨_, rfl, .inr ⟨⟨_, t.sq⟩, c _ _ _ _ _ _ st S1 (it_tupD S1 t rl) trivial rfl hq⟩⟩
  · obtain ⟨us, e, hq⟩ := hq
    cases r
    obtain ⟨vs, e2, _⟩ := S1 _ _ e
    exact ⟨_, rfl, .inl ⟨⟨_, .inl (.inl e2)⟩, c _ _ _ _ _ _ st S1 it_list e rfl hq⟩⟩
  · exact hq.elim
theorem it_rev {K : Kw} {H0 : Hp} {M0 : Hm} {p : Addr} {us : List U} : ItOk K H0 M0 (Itv K p us.length) us.reverse (fun M => M p = some (.lst us)) := fun i H M st S hm => by
  obtain ⟨vs, e, r⟩ := S p _ hm
  refine ⟨fun u hu => ?_, fun hl => by
    rw [List.length_reverse] at hl
    exact Nat.le_of_eq hl⟩
  obtain ⟨h1, h2⟩ := List.getElem?_eq_some_iff.mp hu
  rw [List.length_reverse] at h1
  have hu' : us[us.length - 1 - i]? = some u := by rw [← List.getElem?_reverse h1]; exact hu
  obtain ⟨v, ev, rv⟩ := r.get hu'
  refine ⟨⟨h1, vs, v, .inl (.inl e), ev⟩, fun x H' ⟨eH, hx⟩ => ?_⟩
  subst eH
  have e2 := hx vs (.inl (.inl e))
  rw [ev] at e2
  cases e2
  exact ⟨Stp.refl _ M, S, rv⟩
theorem it_revT {K : Kw} {H0 : Hp} {M0 : Hm} {p : Addr} {vs : List V} {us : List U} (S0 : Sim K H0 M0) (t : Tp K H0 p vs) (r0 : RelL K H0 vs us) : ItOk K H0 M0 (RT.ItvT K p us.length) us.reverse (fun _ => True) := fun i H M st S _ => by
  have t1 := t.stp S0 st
  have r := r0.stp S0 st
  refine ⟨fun u hu => ?_, fun hl => by
    rw [List.length_reverse] at hl
    exact Nat.le_of_eq hl⟩
  obtain ⟨h1, h2⟩ := List.getElem?_eq_some_iff.mp hu
  rw [List.length_reverse] at h1
  have hu' : us[us.length - 1 - i]? = some u := by rw [← List.getElem?_reverse h1]; exact hu
  obtain ⟨v, ev, rv⟩ := r.get hu'
  refine ⟨⟨h1, vs, v, t1.sq, ev⟩, fun x H' ⟨eH, hx⟩ => ?_⟩
  subst eH
  have e2 := hx vs t1.sq
  rw [ev] at e2
  cases e2
  exact ⟨Stp.refl _ M, S, rv⟩
theorem it_revD {K : Kw} {H0 : Hp} {M0 : Hm} {p : Addr} {vs : List V} {us : List U} (S0 : Sim K H0 M0) (t : Td K H0 p vs) (r0 : RelL K H0 vs us) : ItOk K H0 M0 (RT.ItvT K p us.length) us.reverse (fun _ => True) := fun i H M st S _ => by
  have t1 := t.stp S0 st
  have r := r0.stp S0 st
  refine ⟨fun u hu => ?_, fun hl => by
    rw [List.length_reverse] at hl
    exact Nat.le_of_eq hl⟩
  obtain ⟨h1, h2⟩ := List.getElem?_eq_some_iff.mp hu
  rw [List.length_reverse] at h1
  have hu' : us[us.length - 1 - i]? = some u := by rw [← List.getElem?_reverse h1]; exact hu
  obtain ⟨v, ev, rv⟩ := r.get hu'
  refine ⟨⟨h1, vs, v, t1.sq, ev⟩, fun x H' ⟨eH, hx⟩ => ?_⟩
  subst eH
  have e2 := hx vs t1.sq
  rw [ev] at e2
  cases e2
  exact ⟨Stp.refl _ M, S, rv⟩
theorem si_rev {tg a : Expr} {f : WE} {x : Str} {p pos : Pos} (hx : x = "reversed") (hg : Gl X x) (hm : X.mg x = none) (hs : isStar a = false) (h : SE1 X f a) :
    SI X tg (.Call (.Name x p) [a] [] pos) (fun σ M Q => f σ M fun x M1 => revI x M1 Q) := by
  subst hx
  obtain ⟨t, pt, q⟩ := h
  refine ⟨_, RT.pi_revA hg hm pt (star_cons hs), fun σ H σu M Qu R rs S hf c => ?_⟩
  refine q σ H σu M _ _ rs S hf fun v H1 u M1 st S1 r hq => ?_
  unfold revI at hq
  split at hq
  · cases r with
    | tup t rl => exact ⟨_, _, rfl, .inr ⟨t.sq, by rw [rl.length]; exact c _ _ _ _ _ _ st S1 (it_revT S1 t rl) trivial rfl hq⟩⟩
  · cases r with
    | dtp t rl => exact ⟨_, _, rfl, .inr ⟨t.sq, by rw [rl.length]; exact c _ _ _ _ _ _ st S1 (it_revD S1 t rl) trivial rfl hq⟩⟩
  · obtain ⟨us, e, hq⟩ := hq
    cases r
    obtain ⟨vs, e2, rl⟩ := S1 _ _ e
    exact ⟨_, _, rfl, .inl ⟨.inl (.inl e2), by rw [rl.length]; exact c _ _ _ _ _ _ st S1 it_rev e rfl hq⟩⟩
  · exact hq.elim
theorem si_rng {tg a : Expr} {f : WE} {x : Str} {p pos : Pos} (hx : x = "range") (hg : Gl X x) (hm : X.mg x = none) (hs : isStar a = false) (h : SE1 X f a) :
    SI X tg (.Call (.Name x p) [a] [] pos) (fun σ M Q => f σ M fun x M1 => ∃ n, x = .int n ∧ n ≤ LIM ∧ -LIM ≤ n ∧ Q (rngU 0 n) (fun _ => True) (fun P => P) M1) := by
  subst hx
  obtain ⟨t, pt, q⟩ := h
  refine ⟨_, pi_range1 hg hm (pa_cons pt pa_nil (star_cons hs)) (star_cons hs), fun σ H σu M Qu R rs S hf c => ?_⟩
  refine q σ H σu M _ _ rs S hf fun v H1 u M1 st S1 r hq => ?_
  obtain ⟨n, rfl, h1, h2, hq⟩ := hq
  cases r
  have hl : LIM = 100000 := rfl
  refine ⟨n, rfl, by omega, by omega, ?_⟩
  have e : rngU 0 n = (List.range n.toNat).map fun i => U.int (0 + (i : Nat)) := by
    unfold rngU
    rw [Int.sub_zero]
  rw [e] at hq
  exact c _ _ _ _ _ _ st S1 it_rng trivial rfl hq
theorem si_rng2 {tg a b : Expr} {f g : WE} {x : Str} {p pos : Pos} (hx : x = "range") (hg : Gl X x) (hm : X.mg x = none) (hs : isStar a = false) (hs2 : isStar b = false) (h : SE1 X f a) (h2 : SE1 X g b) :
    SI X tg (.Call (.Name x p) [a, b] [] pos) (fun σ M Q => f σ M fun x M1 => g σ M1 fun y M2 => ∃ m n, x = .int m ∧ y = .int n ∧ -LIM ≤ m ∧ m ≤ LIM ∧ n ≤ LIM ∧ -LIM ≤ n ∧ Q (rngU m n) (fun _ => True) (fun P => P) M2) := by
  subst hx
  obtain ⟨t, pt, q⟩ := h
  obtain ⟨t2, pt2, q2⟩ := h2
  have st2 : ∀ env : Env, starEach [b] env = [(false, eval b env)] := fun env => star_cons hs2
  refine ⟨_, pi_range2 hg hm (pa_cons pt (pa_cons pt2 pa_nil (star_cons hs2)) (star_cons hs)) (by rw [star_cons hs, star_cons hs2] <;> rfl) (by rw [star_cons hs2] <;> rfl), fun σ H σu M Qu R rs S hf c => ?_⟩
  refine q σ H σu M _ _ rs S hf fun v H1 u M1 st S1 r hq => ?_
  refine q2 σ H1 σu M1 _ _ (rs.stp S st) S1 hq fun v2 H2 u2 M2 st2 S2 r2 hq2 => ?_
  obtain ⟨m, n, rfl, rfl, h1, h2, h3, h4, hq⟩ := hq2
  cases r
  cases r2
  have hl : LIM = 100000 := rfl
  refine ⟨m, n, rfl, by omega, ?_⟩
  exact c _ _ _ _ _ _ (st.trans S st2) S2 it_rng trivial rfl hq
end
end Pl

set_option maxHeartbeats 4000000
/-! instances: fields, methods, making; setdefault; list(range(..)); a module's constants -/
namespace Pl
open PySem L2
theorem RelF.get {K : Kw} {H : Hp} {f : Str} {u : U} : ∀ {vs : List (Str × V)} {fs : List (Str × U)}, RelF K H vs fs → fs.lookup f = some u → ∃ y, vs.lookup f = some y ∧ Rel K H y u ∧ (f, y) ∈ vs
  | _, _, .nil, e => by cases e
  | _, _, .cons (a := p) (b := q) (l₁ := r) (l₂ := rest) a b, e => by
    obtain ⟨g, v⟩ := p
    obtain ⟨g', u'⟩ := q
    obtain ⟨rfl, rv⟩ := (show g = g' ∧ Rel K H v u' from a)
    cases hb : (f == g) with
    | true =>
      have e1 : List.lookup f ((g, u') :: rest) = some u' := by simp only [List.lookup, hb]
      rw [e1] at e
      cases e
      have := beq_iff_eq.mp hb
      subst this
      exact ⟨v, by simp only [List.lookup, hb], rv, List.mem_cons_self⟩
    | false =>
      have e1 : List.lookup f ((g, u') :: rest) = List.lookup f rest := by simp only [List.lookup, hb]
      rw [e1] at e
      obtain ⟨y, h1, h2, h3⟩ := RelF.get b e
      exact ⟨y, by simp only [List.lookup, hb]; exact h1, h2, List.mem_cons_of_mem _ h3⟩
theorem RelF.no {K : Kw} {H : Hp} {f : Str} : ∀ {vs : List (Str × V)} {fs : List (Str × U)}, RelF K H vs fs → fs.lookup f = none → vs.lookup f = none
  | _, _, .nil, e => rfl
  | _, _, .cons (a := p) (b := q) (l₁ := r) (l₂ := rest) a b, e => by
    obtain ⟨g, v⟩ := p
    obtain ⟨g', u'⟩ := q
    obtain ⟨rfl, rv⟩ := (show g = g' ∧ Rel K H v u' from a)
    cases hb : (f == g) with
    | true =>
      have e1 : List.lookup f ((g, u') :: rest) = some u' := by simp only [List.lookup, hb]
      rw [e1] at e
      cases e
    | false =>
      have e1 : List.lookup f ((g, u') :: rest) = List.lookup f rest := by simp only [List.lookup, hb]
      rw [e1] at e
      simp only [List.lookup, hb]
      exact RelF.no b e
theorem RelF.put {K : Kw} {H : Hp} {f : Str} {v : V} {u : U} (r : Rel K H v u) : ∀ {vs : List (Str × V)} {fs : List (Str × U)}, RelF K H vs fs → RelF K H (putF f v vs) (fput f u fs)
  | _, _, .nil => .cons ⟨rfl, r⟩ .nil
  | _, _, .cons (a := p) (b := q) (l₁ := t) (l₂ := rest) a b => by
    obtain ⟨g, w⟩ := p
    obtain ⟨g', u'⟩ := q
    obtain ⟨rfl, rv⟩ := (show g = g' ∧ Rel K H w u' from a)
    unfold putF fput
    by_cases h : g = f
    · rw [if_pos h, if_pos h]
      exact .cons ⟨rfl, r⟩ b
    · rw [if_neg h, if_neg h]
      exact .cons ⟨rfl, rv⟩ (RelF.put r b)
theorem mem_putF {f : Str} {v : V} {P : Str → Prop} (hf : P f) : ∀ {vs : List (Str × V)}, (∀ x ∈ vs, P x.1) → ∀ x ∈ putF f v vs, P x.1
  | [], _, x, hx => by
    rw [show putF f v [] = [(f, v)] from rfl, List.mem_singleton] at hx
    rw [hx]
    exact hf
  | (g, y) :: r, h, x, hx => by
    unfold putF at hx
    by_cases e : g = f
    · rw [if_pos e] at hx
      rcases List.mem_cons.mp hx with rfl | hx
      · exact h (g, y) List.mem_cons_self
      · exact h x (List.mem_cons_of_mem _ hx)
    · rw [if_neg e] at hx
      rcases List.mem_cons.mp hx with rfl | hx
      · exact h (g, y) List.mem_cons_self
      · exact mem_putF hf (fun z hz => h z (List.mem_cons_of_mem _ hz)) x hx
theorem RelF.len {K : Kw} {H : Hp} {vs : List (Str × V)} {fs : List (Str × U)} (h : RelF K H vs fs) : vs.length = fs.length := Paired.length h
section
variable {X : Cy}
theorem se_fld {o : Expr} {f : Str} {g : WE} {pos : Pos} (hb : notSup o = true) (h1 : SE1 X g o) :
    SE1 X (fun σ M Q => g σ M fun x M1 => ∃ p c fs v, x = .ref p ∧ M1 p = some (.obj c fs) ∧ fs.lookup f = some v ∧ Q v M1) (.Attribute o f pos) := by
  obtain ⟨t1, p1, q1⟩ := h1
  refine ⟨_, pe_fld p1 (base_of hb), fun σ H σu M Qu Q rs S hf c => ?_⟩
  refine q1 σ H σu M _ _ rs S hf fun v H1 u M1 st S1 r hq => ?_
  obtain ⟨p, cn, fs, w, rfl, hm, hl, hq⟩ := hq
  obtain ⟨dx, vs, e, rf, cl, na⟩ := S1 _ _ hm
  cases r
  obtain ⟨y, hy, ry, mem⟩ := RelF.get rf hl
  exact ⟨p, cad (kwX X) cn, dx, vs, y, rfl, e, cl, na _ mem, hy, (c.tr S st).at_ S1 ry hq⟩
theorem eval_meth {env : Env} {o : Expr} {m : Str} {apos pos : Pos} {args : List Expr} (hb : notSup o = true) (hall : args.all (fun e => !isStar e) = true) (hl : args.length < 10) (hline : (apos.endLine == pos.line) = true) :
    eval (.Call (.Attribute o m apos) args [] pos) env = (do
      let ov ← eval o env
      standAt apos.atName
      let (f, first) ← holding [ov] (getMethod ov m (do return (← importBound o env).getD true))
      callWith pos f first (backTo pos (starEach args env)) (backToKw pos (keywordEach [] env))) := by
  rw [arm_eval_Call, base_of hb]
  have hform : methodCallForm (args.length + ([] : List Keyword).length) (backTo pos (starEach args env)) (backToKw pos (keywordEach [] env)) = true := few_args hall hl
  have hpos : methodCallPos true o env apos pos = pure pos := by unfold methodCallPos; simp [hline]
  unfold methodCall
  rw [hform, hpos]
  simp only [pure_bind]
  rfl
theorem se_meth {k : Nat} {f : Addr} {fd : FuncData} {ps : List Str} {m cn : Str} {o : Expr} {es : List Expr} {g : WE} {gl : WL} {c : List U → Hm → QU → Prop} {apos pos : Pos} (F : FnOk X.prog X.w (kwX X) X.mg X.base CX0 k f fd ps (spOf (kwX X) c)) (hr : Room k X.A) (cl : Cls (kwX X) (cad (kwX X) cn)) (hm : Meth (kwX X) (cad (kwX X) cn) m f)
    (hb : Binds (kwX X) fd ps []) (hs : es.all (fun e => !isStar e) = true) (hl : es.length < 10) (hline : (apos.endLine == pos.line) = true) (hn : notSup o = true) (h1 : SE1 X g o) (h : SA X gl es) (hg0 : es = [] → gl = fun _ M Q => Q [] M) :
    SE1 X (fun σ M Q => g σ M fun x M1 => (∃ p fs, x = .ref p ∧ M1 p = some (.obj cn fs) ∧ fs.lookup m = none) ∧ gl σ M1 fun xs M2 => c (x :: xs) M2 Q) (.Call (.Attribute o m apos) es [] pos) := by
  obtain ⟨t1, p1, q1⟩ := h1
  obtain ⟨t, pt, q⟩ := h
  cases es with
  | nil =>
    rw [hg0 rfl]
    refine ⟨_, pe_meth0 p1 cl hm F hr hb .nil pass0 (eval_meth hn hs hl hline), fun σ H σu M Qu Q rs S hf ct => ?_⟩
    refine q1 σ H σu M _ _ rs S hf fun v H1 u M1 st S1 r hq => ?_
    obtain ⟨⟨p, fs, rfl, e, lk⟩, hq⟩ := hq
    obtain ⟨dx, vs, e1, rf, _, _⟩ := S1 _ _ e
    cases r
    exact ⟨p, dx, vs, rfl, e1, rf.no lk, [.ref p], M1, Qu, S1, .cons (.ref p) .nil, hq, ct.tr S st⟩
  | cons e es =>
    have hs2 : isStar e = false ∧ es.all (fun e => !isStar e) = true := by
      rw [List.all_cons, Bool.and_eq_true] at hs
      exact ⟨by simpa using hs.1, hs.2⟩
    refine ⟨_, pe_meth p1 cl hm F hr hb .nil pass0 pt (star_cons hs2.1) (star_plain hs2.2) (eval_meth hn hs hl hline), fun σ H σu M Qu Q rs S hf ct => ?_⟩
    refine q1 σ H σu M _ _ rs S hf fun v H1 u M1 st S1 r hq => ?_
    obtain ⟨⟨p, fs, rfl, e, lk⟩, hq⟩ := hq
    obtain ⟨dx, vs, e1, rf, _, _⟩ := S1 _ _ e
    cases r
    refine ⟨p, dx, vs, rfl, e1, rf.no lk, ?_⟩
    refine q σ H1 σu M1 _ _ (rs.stp S st) S1 hq fun vs H2 us M2 st2 S2 rl hq2 => ?_
    rw [List.append_nil]
    exact ⟨.ref p :: us, M2, Qu, S2, .cons (.ref p) rl, hq2, ct.tr S (st.trans S st2)⟩
theorem new_obj {K : Kw} {H : Hp} {M : Hm} (S : Sim K H M) {cn : Str} (cl : Cls K (cad K cn)) {x dx : Addr} (hx : H x = none) (hd : H dx = none) (ne : dx ≠ x) :
    Stp H M (upd (upd H dx (.own x)) x (.ins (cad K cn) dx [])) (um M x (.obj cn [])) ∧ Sim K (upd (upd H dx (.own x)) x (.ins (cad K cn) dx [])) (um M x (.obj cn [])) := by
  have s1 : Stp H M (upd H dx (.own x)) M := Stp.newT S hd
  have S1 : Sim K (upd H dx (.own x)) M := S.to s1 fun a o e => .inl ⟨e, upd_ne fun z => by
    have q := S.fr hd
    rw [z, q] at e
    cases e⟩
  have h2 : upd H dx (.own x) x = none := by rw [upd_ne (Ne.symm ne)]; exact hx
  exact ⟨s1.trans S (Stp.new S1 h2), S1.new (m := .obj cn []) h2 ⟨dx, [], upd_same, .nil, cl, fun z hz => nomatch hz⟩⟩
theorem ev_make {k : List U → Hm → QU → Prop} {cn : Str} {g : WL} {t : TA} (cl : Cls (kwX X) (cad (kwX X) cn)) (q : EvL (kwX X) t g) :
    EvE (kwX X) (fun σ H Q => t σ H fun vs H1 => ∀ x dx, H1 x = none → H1 dx = none → dx ≠ x → CRs (kwX X) k (.ref x :: (vs ++ [])) (upd (upd H1 dx (.own x)) x (.ins (cad (kwX X) cn) dx [])) (fun v H2 => v = .non ∧ Q (.ref x) H2))
      (fun σ M Q => g σ M fun xs M1 => ∀ p, M1 p = none → k (.ref p :: xs) (um M1 p (.obj cn [])) fun u M2 => u = .non ∧ Q (.ref p) M2) := fun σ H σu M Qu Q rs S hf ct => by
  refine q σ H σu M _ _ rs S hf fun vs H1 us M1 st S1 r1 hq x dx hx hd ne => ?_
  obtain ⟨s2, S2⟩ := new_obj S1 cl hx hd ne
  rw [List.append_nil]
  refine ⟨.ref x :: us, um M1 x (.obj cn []), _, S2, .cons (.ref x) (r1.stp S1 s2), hq x (S1.fr hx), fun v H3 u M3 s3 S3 rv hq3 => ?_⟩
  obtain ⟨rfl, hq3⟩ := hq3
  cases rv
  exact ⟨rfl, ct _ _ (.ref x) M3 ((st.trans S s2).trans S s3) S3 (.ref x) hq3⟩
theorem se_make {k : Nat} {f : Addr} {fd : FuncData} {ps : List Str} {x : Str} {es : List Expr} {gl : WL} {c : List U → Hm → QU → Prop} {p pos : Pos} (Mk_ : Mk (kwX X) (cad (kwX X) x) f) (F : FnOk X.prog X.w (kwX X) X.mg X.base CX0 k f fd ps (spOf (kwX X) c)) (hr : Room (k + 1) X.A) (hg : Gl X x) (hm : X.mg x = some (.ref (cad (kwX X) x)))
    (cl : Cls (kwX X) (cad (kwX X) x)) (hb : Binds (kwX X) fd ps []) (hdb : (x == ("__debug__" : Str)) = false) (hs : es.all (fun e => !isStar e) = true) (h : SA X gl es) (hg0 : es = [] → gl = fun _ M Q => Q [] M) :
    SE1 X (fun σ M Q => gl σ M fun xs M1 => ∀ p, M1 p = none → c (.ref p :: xs) (um M1 p (.obj x [])) fun u M2 => u = .non ∧ Q (.ref p) M2) (.Call (.Name x p) es [] pos) := by
  obtain ⟨t, pt, q⟩ := h
  cases es with
  | nil =>
    rw [hg0 rfl]
    exact ⟨_, pe_make0 Mk_ F hr hg hm hb .nil pass0 hdb, ev_make cl (fun σ H σu M Qu Q rs S hf ct => ct _ _ _ _ (Stp.refl H M) S .nil hf)⟩
  | cons e es =>
    have hs2 : isStar e = false ∧ es.all (fun e => !isStar e) = true := by
      rw [List.all_cons, Bool.and_eq_true] at hs
      exact ⟨by simpa using hs.1, hs.2⟩
    exact ⟨_, pe_make Mk_ F hr hg hm hb .nil pass0 pt hdb (star_cons hs2.1) (star_plain hs2.2), ev_make cl q⟩
theorem se_prop {k : Nat} {pa f : Addr} {fd : FuncData} {ps : List Str} {m cn : Str} {o : Expr} {g : WE} {c : List U → Hm → QU → Prop} {pos : Pos} (F : FnOk X.prog X.w (kwX X) X.mg X.base CX0 k f fd ps (spOf (kwX X) c)) (hr : Room (k + 1) X.A) (cl : Cls (kwX X) (cad (kwX X) cn)) (hp : PropOf (kwX X) (cad (kwX X) cn) m pa f)
    (hb : Binds (kwX X) fd ps []) (hn : notSup o = true) (h1 : SE1 X g o) :
    SE1 X (fun σ M Q => g σ M fun x M1 => (∃ p fs, x = .ref p ∧ M1 p = some (.obj cn fs)) ∧ c [x] M1 Q) (.Attribute o m pos) := by
  obtain ⟨t1, p1, q1⟩ := h1
  refine ⟨_, pe_prop p1 cl hp F hr hb .nil pass0 (base_of hn), fun σ H σu M Qu Q rs S hf ct => ?_⟩
  refine q1 σ H σu M _ _ rs S hf fun v H1 u M1 st S1 r hq => ?_
  obtain ⟨⟨p, fs, rfl, e⟩, hq⟩ := hq
  obtain ⟨dx, vs, e1, rf, _, _⟩ := S1 _ _ e
  cases r
  exact ⟨p, dx, vs, rfl, e1, [.ref p], M1, Qu, S1, .cons (.ref p) .nil, hq, ct.tr S st⟩
theorem se_gl {x : Str} {v : V} {u : U} {w : Value} {p : Pos} (hg : Gl X x) (hm : X.mg x = some w) (r : RelV v w) (ru : ∀ H, Rel (kwX X) H v u) (hdb : (x == ("__debug__" : Str)) = false) : SE1 X (fun _ M Q => Q u M) (.Name x p) :=
  ⟨_, pe_glob hg hm r hdb, fun _ H _ _ _ _ _ S q c => c.at_ S (ru H) q⟩
theorem se_setdef {o e d : Expr} {f g h : WE} {apos pos : Pos} (hs : isStar e = false) (hs2 : isStar d = false) (hline : (apos.endLine == pos.line) = true) (hb : notSup o = true) (h1 : SE1 X f o) (h2 : SE1 X g e) (h3 : SE1 X h d) :
    SE1 X (fun σ M Q => f σ M fun x M1 => isDW x M1 ∧ g σ M1 fun y M2 => h σ M2 fun v M3 => setdefW x y v M3 Q) (.Call (.Attribute o "setdefault" apos) [e, d] [] pos) := by
  obtain ⟨t1, p1, q1⟩ := h1
  obtain ⟨t2, p2, q2⟩ := h2
  obtain ⟨t3, p3, q3⟩ := h3
  have hall : [e, d].all (fun e => !isStar e) = true := by simp [hs, hs2]
  refine ⟨_, pe_dsetd p1 p2 p3 ⟨base_of hb, few_args hall (by simp), hline, by rw [star_cons hs, star_cons hs2]; rfl⟩, fun σ H σu M Qu Q rs S hf c => ?_⟩
  refine q1 σ H σu M _ _ rs S hf fun v H1 u M1 st S1 r hq => ?_
  obtain ⟨⟨p, z, t, ks, rfl, hm⟩, hq⟩ := hq
  cases r
  have hd : IsD H1 p := by
    have q := S1 p _ hm
    cases t with
    | false => obtain ⟨kvs, e, _⟩ := q; exact .inl ⟨kvs, fz_rd e⟩
    | true => obtain ⟨kvs, e, _⟩ := q; exact .inr ⟨kvs, fz_rd e⟩
  refine ⟨p, rfl, hd, ?_⟩
  refine q2 σ H1 σu M1 _ _ (rs.stp S st) S1 hq fun y H2 uy M2 st2 S2 ry hq2 => ?_
  refine q3 σ H2 σu M2 _ _ (rs.stp S (st.trans S st2)) S2 hq2 fun w H3 uw M3 st3 S3 rw' hq3 => ?_
  obtain ⟨p', ks', e, hm3, hk, hl, hq3⟩ := hq3
  cases e
  have cc := c.tr S ((st.trans S st2).trans S st3)
  obtain ⟨kvs, e3, rk⟩ := S3 _ _ hm3
  have e3 : H3 p = some (.dK kvs) := e3
  obtain ⟨key, e1, e2⟩ := isKey_of hk (ry.stp S2 st3)
  refine ⟨kvs, key, e3, e2, by rw [rk.len]; exact lt_line hl, fun v hv => ?_, fun hv => ?_⟩
  · rcases rk.find key with ⟨h1, h2⟩ | ⟨v', u', h1, h2, h3⟩
    · rw [h1] at hv; cases hv
    · rw [h1] at hv
      cases hv
      rw [e1, h2] at hq3
      exact cc.at_ S3 h3 hq3
  · rcases rk.find key with ⟨h1, h2⟩ | ⟨v', u', h1, h2, h3⟩
    · rw [e1, h2] at hq3
      have st4 : Stp H3 M3 (upd H3 p (.dK (putK kvs key w))) (um M3 p (.dct false false (dput ks' (keyU key) uw))) := Stp.mut hm3
      refine cc _ _ uw _ st4 (S3.mut (m := .dct false false (dput ks' (keyU key) uw)) hm3 rfl ⟨_, upd_same, ?_⟩) (rw'.stp S3 st4) hq3
      exact RelK.put (Paired.mapR rk fun p q x => ⟨x.1, x.2.stp S3 st4⟩) key (rw'.stp S3 st4)
    · rw [h1] at hv; cases hv
theorem relL_strs {K : Kw} {H : Hp} : ∀ {ns : List Str} {vs : List V}, RelL K H vs (ns.map U.str) → vs = ns.map V.str
  | [], vs, h => by cases h; rfl
  | n :: ns, vs, h => by
    cases h with
    | cons a b => cases a; rw [relL_strs b]; rfl
def rTidx (K : Kw) : V → List V → Hp → VK → Prop := fun x xs H Q => ∃ p, ∃ ys : List Str, ∃ z j, x = .ref p ∧ xs = [.str z] ∧ SqT K H p (ys.map V.str) ∧ ys[j]? = some z ∧ (∀ m, m < j → ys[m]? ≠ some z) ∧ Q (.int (j : Nat)) H
theorem se_tidx {o e : Expr} {f g : WE} {apos pos : Pos} (hs : isStar e = false) (hline : (apos.endLine == pos.line) = true) (hb : notSup o = true) (h1 : SE1 X f o) (h2 : SE1 X g e) :
    SE1 X (fun σ M Q => f σ M fun x M1 => (∃ l, x = .dtp l) ∧ g σ M1 fun y M2 => tidxW x y M2 Q) (.Call (.Attribute o "index" apos) [e] [] pos) := by
  obtain ⟨t1, p1, q1⟩ := h1
  obtain ⟨t2, p2, q2⟩ := h2
  have pa := pa_cons p2 (pa_nil (X := X)) (star_cons hs)
  refine ⟨fun σ H Q => t1 σ H fun x H1 => (∃ a vs, x = .ref a ∧ Td (kwX X) H1 a vs) ∧ (tCons t2 tNil) σ H1 fun xs H2 => rTidx (kwX X) x xs H2 Q,
    ⟨fun pins s σ H Q I h => ?_⟩, fun σ H σu M Qu Q rs S hf c => ?_⟩
  · refine wpAny_Call_method_late (base_of hb) (few_args (by simp [hs]) (by simp)) hline rfl (thn (p1.run pins s σ H _ I h) fun v s1 ⟨x, H1, I1, r1, ⟨a, vs, ex, td⟩, q⟩ => ?_)
    subst ex
    obtain rfl : v = Value.ref a := r1
    obtain ⟨ob, hg, ⟨its, rv, hcl, n2, hda⟩, _, hd, _⟩ := td_obj I1 td
    refine ⟨"tuple", "tuple.index", PySem.F.plainAttrs_tuple, PySem.F.slot_tuple_index, PySem.F.type_tuple_index, ?_, fun b e => ?_, ?_⟩
    · exact ⟨ob, hg, hcl⟩
    · cases e
      exact ⟨ob, hg, hd⟩
    · have hA := pa.run pos pins s1 σ H1 _ I1 q
      rw [star_cons hs] at hA ⊢
      refine Calls.callWith_builtin (by rfl) (Calls.evalArgs_plain ?_)
      exact thn hA fun us s2 ⟨vs, H2, I2, r2, q2⟩ => mt_tup_index pins s2 σ H2 (.ref a) vs (.ref a) us Q I2 rfl r2 q2
  · refine q1 σ H σu M _ _ rs S hf fun v H1 u M1 st S1 r hq => ?_
    obtain ⟨⟨l, rfl⟩, hq⟩ := hq
    cases r with
    | dtp td rl =>
      refine ⟨⟨_, _, rfl, td⟩, ?_⟩
      refine q2 σ H1 σu M1 _ _ (rs.stp S st) S1 hq fun y H2 uy M2 st2 S2 ry hq2 => ?_
      obtain ⟨ys, z, j, e1, rfl, h3, h4, hq2⟩ := hq2
      cases e1
      cases ry
      have rl2 := relL_strs (rl.stp S1 st2)
      subst rl2
      exact ⟨_, ys, z, j, rfl, rfl, (td.stp S1 st2).sq, h3, h4, (c.tr S (st.trans S st2)).at_ S2 (.int _) hq2⟩
theorem rel_rg {K : Kw} {H : Hp} (a b : Int) : RelL K H (rgV a b) (rngU a b) := by
  unfold rgV rngU
  generalize List.range (b - a).toNat = l
  induction l with
  | nil => exact .nil
  | cons i l ih => exact .cons (.int _) ih
theorem rg_ok {a b : Int} (h1 : b ≤ LIM) (h2 : -LIM ≤ b) (h3 : a ≤ LIM) (h4 : -LIM ≤ a) : RgOk a b := by
  unfold LIM at *
  refine ⟨by omega, by omega, by omega, by omega, by omega⟩
/-- list(range(b)), tuple(range(b)) -/
theorem se_lrng1 {t : Bool} {b : Expr} {g : WE} {x y : Str} {p p2 pos pos2 : Pos} (hc : X.calm = true) (hx : x = if t = true then ("tuple" : Str) else ("list" : Str)) (hy : y = "range") (hg : Gl X x) (hm : X.mg x = none) (hg2 : Gl X y) (hm2 : X.mg y = none) (hs : isStar b = false) (h : SE1 X g b) :
    SE1 X (fun σ M Q => g σ M fun y M2 => ∃ n, y = .int n ∧ n ≤ LIM ∧ -LIM ≤ n ∧ (0 : Int) ≤ LIM ∧ -LIM ≤ (0 : Int) ∧ if t = true then Q (.tup (rngU 0 n)) M2 else ∀ p, M2 p = none → Q (.ref p) (um M2 p (.lst (rngU 0 n))))
      (.Call (.Name x p) [.Call (.Name y p2) [b] [] pos2] [] pos) := by
  obtain ⟨t1, p1, q1⟩ := h
  subst hy
  have pr := prg_1 (p := p2) (pos := pos2) hg2 hm2 p1 (star_cons hs)
  cases t with
  | true =>
    subst hx
    refine ⟨_, pe_tupRg hc hg hm pr (star_cons rfl), fun σ H σu M Qu Q rs S hf ct => ?_⟩
    refine q1 σ H σu M _ _ rs S hf fun v H1 u M1 st S1 r hq => ?_
    obtain ⟨n, rfl, b1, b2, b3, b4, hq⟩ := hq
    cases r
    exact ⟨n, rfl, rg_ok b1 b2 b3 b4, fun q hq2 => (ct.tr S st).tup S1 (rel_rg 0 n) hq hq2⟩
  | false =>
    subst hx
    refine ⟨_, pe_listRg hc hg hm pr (star_cons rfl), fun σ H σu M Qu Q rs S hf ct => ?_⟩
    refine q1 σ H σu M _ _ rs S hf fun v H1 u M1 st S1 r hq => ?_
    obtain ⟨n, rfl, b1, b2, b3, b4, hq⟩ := hq
    cases r
    exact ⟨n, rfl, rg_ok b1 b2 b3 b4, fun q hq2 => (ct.tr S st).lst S1 (rel_rg 0 n) hq hq2⟩
theorem se_lrng2 {t : Bool} {a b : Expr} {f g : WE} {x y : Str} {p p2 pos pos2 : Pos} (hc : X.calm = true) (hx : x = if t = true then ("tuple" : Str) else ("list" : Str)) (hy : y = "range") (hg : Gl X x) (hm : X.mg x = none) (hg2 : Gl X y) (hm2 : X.mg y = none) (hs : isStar a = false) (hs2 : isStar b = false) (h0 : SE1 X f a) (h : SE1 X g b) :
    SE1 X (fun σ M Q => f σ M fun x M1 => ∃ i, x = .int i ∧ g σ M1 fun y M2 => ∃ n, y = .int n ∧ n ≤ LIM ∧ -LIM ≤ n ∧ i ≤ LIM ∧ -LIM ≤ i ∧ if t = true then Q (.tup (rngU i n)) M2 else ∀ p, M2 p = none → Q (.ref p) (um M2 p (.lst (rngU i n))))
      (.Call (.Name x p) [.Call (.Name y p2) [a, b] [] pos2] [] pos) := by
  obtain ⟨t0, p0, q0⟩ := h0
  obtain ⟨t1, p1, q1⟩ := h
  subst hy
  have pr := prg_2 (p := p2) (pos := pos2) hg2 hm2 p0 p1 (star_cons hs) (star_cons hs2) (star_plain (by simp [hs2]))
  cases t with
  | true =>
    subst hx
    refine ⟨_, pe_tupRg hc hg hm pr (star_cons rfl), fun σ H σu M Qu Q rs S hf ct => ?_⟩
    refine q0 σ H σu M _ _ rs S hf fun v0 H0 u0 M0 st0 S0 r0 hq => ?_
    obtain ⟨i, rfl, hq⟩ := hq
    refine q1 σ H0 σu M0 _ _ (rs.stp S st0) S0 hq fun v H1 u M1 st S1 r hq => ?_
    obtain ⟨n, rfl, b1, b2, b3, b4, hq⟩ := hq
    cases r
    cases r0
    exact ⟨i, n, rfl, rfl, rg_ok b1 b2 b3 b4, fun q hq2 => (ct.tr S (st0.trans S st)).tup S1 (rel_rg i n) hq hq2⟩
  | false =>
    subst hx
    refine ⟨_, pe_listRg hc hg hm pr (star_cons rfl), fun σ H σu M Qu Q rs S hf ct => ?_⟩
    refine q0 σ H σu M _ _ rs S hf fun v0 H0 u0 M0 st0 S0 r0 hq => ?_
    obtain ⟨i, rfl, hq⟩ := hq
    refine q1 σ H0 σu M0 _ _ (rs.stp S st0) S0 hq fun v H1 u M1 st S1 r hq => ?_
    obtain ⟨n, rfl, b1, b2, b3, b4, hq⟩ := hq
    cases r
    cases r0
    exact ⟨i, n, rfl, rfl, rg_ok b1 b2 b3 b4, fun q hq2 => (ct.tr S (st0.trans S st)).lst S1 (rel_rg i n) hq hq2⟩
end
end Pl

set_option maxHeartbeats 4000000
/-! sorted(set(t)) as an expression -/
namespace Pl
open PySem L2
section
variable {X : Cy}
def tSset (X : Cy) (te : TE) : TE := fun σ H Q => te σ H fun x H1 => ∃ (a : Addr) (xs : List Str) (M : Hm) (Qu : QU), x = .ref a ∧ SqT X.K H1 a (xs.map V.str) ∧ xs.length ≤ 1000 ∧ (∀ y ∈ xs, okS y = true) ∧ Sim (kwX X) H1 M ∧ Cont (kwX X) H1 M Qu Q ∧
  ∀ ks : List Str, ks.Nodup → (∀ y, y ∈ ks ↔ y ∈ xs) → ∀ q, M q = none → Qu (.ref q) (um M q (.lst (sortU (ks.map U.str))))
theorem texts_of {es : List (Int × Value)} {P : Program} {w : World} (h : ElemsOf (strKind P w) es) : ∃ ls : List Str, Vals (ls.map V.str) (es.map (·.2)) ∧ ∀ x, x ∈ ls ↔ ∃ e ∈ es, (strKind P w).is x e.2 = true := by
  induction es with
  | nil => exact ⟨[], .nil, fun x => by simp⟩
  | cons e es ih =>
    obtain ⟨ls, v, m⟩ := ih h.tail
    obtain ⟨⟨k, hk, _⟩, _⟩ := h.head
    obtain ⟨t, et⟩ := Value.isStrOf_shape hk
    refine ⟨k :: ls, .cons ⟨t, et⟩ v, fun x => ?_⟩
    rw [List.mem_cons, m x]
    constructor
    · rintro (rfl | ⟨e', he, hx⟩)
      · exact ⟨e, List.mem_cons_self, hk⟩
      · exact ⟨e', List.mem_cons_of_mem _ he, hx⟩
    · rintro ⟨e', he, hx⟩
      rcases List.mem_cons.mp he with rfl | he
      · exact .inl ((strKind P w).inj _ _ _ hx hk)
      · exact .inr ⟨e', he, hx⟩
theorem vals_perm {vs : List V} {us us' : List Value} (r : Vals vs us) (p : us'.Perm us) : ∃ vs', vs'.Perm vs ∧ Vals vs' us' := by
  induction p.symm generalizing vs with
  | nil => cases r; exact ⟨[], .refl _, .nil⟩
  | cons x _ ih =>
    cases r with
    | cons a r =>
      obtain ⟨vs', p', r'⟩ := ih r (List.Perm.symm ‹_›)
      exact ⟨_ :: vs', p'.cons _, .cons a r'⟩
  | swap x y l =>
    cases r with
    | cons a r =>
      cases r with
      | cons b r => exact ⟨_ :: _ :: _, .swap _ _ _, .cons b (.cons a r)⟩
  | trans h1 h2 ih1 ih2 =>
    obtain ⟨v1, p1, r1⟩ := ih1 r h1.symm
    obtain ⟨v2, p2, r2⟩ := ih2 r1 h2.symm
    exact ⟨v2, p2.trans p1, r2⟩
theorem texts_perm {ls : List Str} {us us' : List Value} (r : Vals (ls.map V.str) us) (p : us'.Perm us) : ∃ ks : List Str, ks.Perm ls ∧ Vals (ks.map V.str) us' := by
  obtain ⟨vs, pv, rv⟩ := vals_perm r p
  have key : ∀ vs : List V, (∀ v ∈ vs, ∃ x, v = V.str x) → ∃ ks : List Str, vs = ks.map V.str := fun vs => by
    induction vs with
    | nil => exact fun _ => ⟨[], rfl⟩
    | cons v vs ih =>
      intro h
      obtain ⟨x, rfl⟩ := h v List.mem_cons_self
      obtain ⟨ks, rfl⟩ := ih fun v hv => h v (List.mem_cons_of_mem _ hv)
      exact ⟨x :: ks, rfl⟩
  obtain ⟨ks, rfl⟩ := key vs fun v hv => by
    obtain ⟨x, _, e⟩ := List.mem_map.mp (pv.mem_iff.mp hv)
    exact ⟨x, e.symm⟩
  refine ⟨ks, ?_, rv⟩
  have := pv.map (fun v : V => match v with | .str x => x | _ => (⟨#[]⟩ : Str))
  rw [List.map_map, List.map_map] at this
  have h2 : (ks.map id).Perm (ls.map id) := this
  rwa [List.map_id, List.map_id] at h2
theorem perm_of_len {α : Type} : ∀ {l ls : List α}, l.Nodup → (∀ x ∈ l, x ∈ ls) → ls.length ≤ l.length → ls.Perm l
  | [], ls, _, _, h => by rw [List.length_eq_zero_iff.mp (Nat.le_zero.mp h)]
  | x :: l, ls, nd, m, h => by
    obtain ⟨a, b, rfl⟩ := List.append_of_mem (m x List.mem_cons_self)
    rw [List.nodup_cons] at nd
    refine List.perm_middle.trans (List.Perm.cons x (perm_of_len nd.2 (fun y hy => ?_) (by simp at h ⊢; omega)))
    have := m y (List.mem_cons_of_mem _ hy)
    rcases List.mem_append.mp this with z | z
    · exact List.mem_append_left _ z
    · rcases List.mem_cons.mp z with rfl | z
      · exact absurd hy nd.1
      · exact List.mem_append_right _ z
theorem relL_txt {K : Kw} {H : Hp} : ∀ ks : List Str, RelL K H (ks.map V.str) (ks.map U.str)
  | [] => .nil
  | x :: ks => .cons (.str x) (relL_txt ks)
theorem sortOk_txt {ks : List Str} (h : ∀ y ∈ ks, okS y = true) (hl : ks.length ≤ LIM) : sortOk (ks.map U.str) := by
  refine ⟨?_, ?_, ?_, by rw [List.length_map]; exact hl⟩
  · refine List.all_eq_true.mpr fun x hx => ?_
    obtain ⟨y, hy, rfl⟩ := List.mem_map.mp hx
    simpa [U.ok] using h y hy
  · intro d hd d' hd'
    simp only [List.mem_map] at hd hd'
    obtain ⟨_, ⟨a, _, rfl⟩, rfl⟩ := hd
    obtain ⟨_, ⟨b, _, rfl⟩, rfl⟩ := hd'
    simp [pd, W.alike]
  · right
    intro d hd
    simp only [List.mem_map] at hd
    obtain ⟨_, ⟨a, _, rfl⟩, rfl⟩ := hd
    exact ⟨fun z => by simp [pd] at z, fun xs z => by simp [pd] at z⟩
theorem nd_in {α : Type} : ∀ {l ls : List α}, l.Nodup → (∀ x ∈ l, x ∈ ls) → l.length ≤ ls.length
  | [], ls, _, _ => Nat.zero_le _
  | x :: l, ls, nd, m => by
    obtain ⟨a, b, rfl⟩ := List.append_of_mem (m x List.mem_cons_self)
    rw [List.nodup_cons] at nd
    have := nd_in (ls := a ++ b) nd.2 fun y hy => by
      rcases List.mem_append.mp (m y (List.mem_cons_of_mem _ hy)) with z | z
      · exact List.mem_append_left _ z
      · rcases List.mem_cons.mp z with rfl | z
        · exact absurd hy nd.1
        · exact List.mem_append_right _ z
    simp at this ⊢
    omega
theorem pe_sset {e : Expr} {te : TE} {p p2 pos pos2 : Pos} (hc : X.calm = true) (hu : X.A.units + 66 < cLine) (hg : Gl X "sorted") (hm : X.mg "sorted" = none) (hg2 : Gl X "set") (hm2 : X.mg "set" = none) (he : PE X e te)
    (na : starEach [e] X.env = (false, eval e X.env) :: starEach [] X.env) : PE X (.Call (.Name "sorted" p) [.Call (.Name "set" p2) [e] [] pos2] [] pos) (tSset X te) := by
  refine ⟨fun pins s σ H Q I h => ?_⟩
  refine PyProof.Rows.Call_ (ld_blt I hg hm PyProof.Rows.boot_sorted (PyProof.Rows.callWith_builtin1 (PyProof.Rows.args_cons ?_ rfl) rfl rfl))
  refine PyProof.Rows.Call_ (ld_blt I hg2 hm2 PyProof.Rows.boot_set (PyProof.Rows.callWith_type1 (PyProof.Rows.args_cons (thn (he.run pins s σ H _ I h) fun v s1 ⟨x, H1, I1, r1, q1⟩ => PyProof.Rows.args_nil ?_) na) na rfl))
  obtain ⟨a, xs, M, Qu, rfl, sq, hl, ok, S, ct, fin⟩ := q1
  cases r1
  obtain ⟨its, rv, tp, hz⟩ := I1.tuple sq
  refine call_set_txs (I1.ok.hd hc) (show s1.heap.IsTuple a its.toArray from tp) (by simpa using strsAre_of rv) (by unfold scanBound; omega) fun h' tk ks T mem keep => ?_
  refine PyProof.Rows.args_nil ?_
  obtain ⟨⟨es, ep, t⟩, ho, F, nd, rs, led⟩ := T
  refine Calls.call_function_entry PyProof.Rows.kind_sorted PyProof.Rows.plain_sorted PyProof.Rows.entry_sorted (PyProof.Rows.args_sorted1 _) ?_
  refine wpAny_bind (wpAny_pure (wpAny_bind ?_))
  have lk : ks.length ≤ xs.length := nd_in nd fun x hx => (mem x).mp hx
  have h1 : es.size = ks.length := F.sz
  refine collect_set (A := X.A.in1) (es := es) (ep := ep) (t := t) (by simp [I1.ok.hd hc]) ⟨_, ho, rfl, rfl⟩ F.fit (by rw [h1]; unfold scanBound; omega) rs led fun s2 vs k2 z2 g2 o2 pm => ?_
  obtain ⟨ls, rl, ml⟩ := texts_of F.el
  obtain ⟨zs, pz, rz⟩ := texts_perm rl pm
  have lz : zs.length = es.size := by
    rw [pz.length_eq, ← List.length_map (f := V.str), rl.length, List.length_map, Array.length_toList]
  have mz : ∀ y, y ∈ zs ↔ y ∈ ks := fun y => pz.mem_iff.trans ((ml y).trans (F.mem y).symm)
  have ndz : zs.Nodup := (perm_of_len nd (fun x hx => (mz x).mpr hx) (by omega)).nodup_iff.mpr nd
  have I2 : L2.Inv X pins σ H1 s2 := I1.call' (ch := []) o2 (Un.kept fun b u e => k2 b u (keep b u e)) (I1.hok.kept fun b u e => k2 b u (keep b u e)) (by rw [g2]; exact I1.bare) (fun _ z => nomatch z)
  have hlim : LIM = 100000 := rfl
  exact sort_tail (h1 := s2.heap) (tk := s2.toks) I2 hu S ct rz (relL_txt zs) (sortOk_txt (fun y hy => ok y ((mem y).mp ((mz y).mp hy))) (by omega)) (fin zs ndz fun y => (mz y).trans (mem y)) fun b u e => e
theorem se_sset {a : Expr} {g : WE} {x y : Str} {p p2 pos pos2 : Pos} (hc : X.calm = true) (hu : X.A.units + 66 < cLine) (hx : x = "sorted") (hy : y = "set") (hg : Gl X x) (hm : X.mg x = none) (hg2 : Gl X y) (hm2 : X.mg y = none) (hs : isStar a = false) (h : SE1 X g a) :
    SE1 X (fun σ M Q => g σ M fun u M2 => ssetW u M2 Q) (.Call (.Name x p) [.Call (.Name y p2) [a] [] pos2] [] pos) := by
  obtain ⟨t1, p1, q1⟩ := h
  subst hx hy
  refine ⟨_, pe_sset hc hu hg hm hg2 hm2 p1 (star_cons hs), fun σ H σu M Qu Q rs S hf ct => ?_⟩
  refine q1 σ H σu M _ _ rs S hf fun v H1 u M1 st S1 r hq => ?_
  obtain ⟨xs, rfl, hl, ok, fin⟩ := hq
  cases r with
  | tup t rl =>
    have e := relL_strs rl
    subst e
    exact ⟨_, xs, M1, Qu, rfl, t.sq, hl, ok, S1, ct.tr S st, fin⟩
theorem it_str {K : Kw} {H0 : Hp} {M0 : Hm} {x : Str} : ItOk K H0 M0 (Its x) (signs x) (fun _ => True) := fun i H M st S _ => by
  unfold signs
  refine ⟨fun u hu => ?_, fun hl => by rw [List.length_map, Array.length_toList] at hl; exact Nat.le_of_eq hl⟩
  rw [List.getElem?_map, Array.getElem?_toList] at hu
  cases hc : x.cps[i]? with
  | none => rw [hc] at hu; cases hu
  | some c =>
    rw [hc] at hu
    cases hu
    refine ⟨(Array.getElem?_eq_some_iff.mp hc).1, fun y H' ⟨eH, c', h1, h2⟩ => ?_⟩
    rw [hc] at h1
    cases h1
    subst eH h2
    exact ⟨Stp.refl _ M, S, .str _⟩
theorem si_str {tg l : Expr} {f : WE} (h : SE1 X f l) : SI X tg l (fun σ M Q => f σ M fun x M1 => ∃ s, x = .str s ∧ Q (signs s) (fun _ => True) (fun P => P) M1) := by
  obtain ⟨t, p, q⟩ := h
  refine ⟨_, pi_str p, fun σ H σu M Qu R rs S hf c => ?_⟩
  refine q σ H σu M _ _ rs S hf fun v H1 u M1 st S1 r hq => ?_
  obtain ⟨s, rfl, hq⟩ := hq
  cases r
  exact ⟨s, rfl, c _ _ _ _ _ _ st S1 it_str trivial rfl hq⟩
end
end Pl

set_option maxHeartbeats 4000000
/-! dict displays: texts and ints as keys -/
namespace Pl
open PySem L2
def flatV (ps : List (V × V)) : List V := ps.flatMap fun p => [p.1, p.2]
def EvPs (K : Kw) (trs : List (TE × TE)) (f : WL) : Prop := ∀ (σ : L2.St) (H : Hp) (σu : SU) (M : Hm) (Qu : List U → Hm → Prop) (Q : List (V × V) → Hp → Prop), RelS K H σ σu → Sim K H M → f σu M Qu →
  (∀ ps H' us M', Stp H M H' M' → Sim K H' M' → RelL K H' (flatV ps) us → Qu us M' → Q ps H') → tPairs trs σ H Q
def SPs (X : Cy) (pos : Pos) (f : WL) (keys : List (Option Expr)) (values : List Expr) : Prop := ∃ trs, PPs X pos keys values trs ∧ EvPs (kwX X) trs f
section
variable {X : Cy}
theorem sps_nil {pos : Pos} : SPs X pos (fun _ M Q => Q [] M) [] [] := ⟨[], pps_nil, fun σ H σu M Qu Q rs S hf c => c [] H [] M (Stp.refl H M) S .nil hf⟩
theorem sps_cons {pos : Pos} {k v : Expr} {ks : List (Option Expr)} {vs : List Expr} {fk fv : WE} {g : WL} (h1 : SE1 X fk k) (h2 : SE1 X fv v) (h3 : SPs X pos g ks vs) :
    SPs X pos (fun σ M Q => fk σ M fun x M1 => fv σ M1 fun y M2 => g σ M2 fun us M3 => Q (x :: y :: us) M3) (some k :: ks) (v :: vs) := by
  obtain ⟨t1, p1, q1⟩ := h1
  obtain ⟨t2, p2, q2⟩ := h2
  obtain ⟨trs, p3, q3⟩ := h3
  refine ⟨_, pps_cons p1 p2 p3, fun σ H σu M Qu Q rs S hf c => ?_⟩
  refine q1 σ H σu M _ _ rs S hf fun x H1 ux M1 st1 S1 rx hf1 => ?_
  refine q2 σ H1 σu M1 _ _ (rs.stp S st1) S1 hf1 fun y H2 uy M2 st2 S2 ry hf2 => ?_
  refine q3 σ H2 σu M2 _ _ ((rs.stp S st1).stp S1 st2) S2 hf2 fun ps H3 us M3 st3 S3 rl hq => ?_
  exact c ((x, y) :: ps) H3 (ux :: uy :: us) M3 ((st1.trans S st2).trans S st3) S3 (.cons ((rx.stp S1 st2).stp S2 st3) (.cons (ry.stp S2 st3) rl)) hq
theorem key_rel {K : Kw} {H : Hp} {k : Key} {x : V} (r : Rel K H x (keyU k)) : x = kV k := by
  cases k <;> (cases r; rfl)
theorem flat_rel {K : Kw} {H : Hp} : ∀ {kvs : List (Key × U)} {ps : List (V × V)}, RelL K H (flatV ps) (flatU kvs) → ∃ kws : List (Key × V), ps = kws.map (fun kv => (kV kv.1, kv.2)) ∧ Paired (fun (p : Key × V) (q : Key × U) => p.1 = q.1 ∧ Rel K H p.2 q.2) kws kvs
  | [], [], _ => ⟨[], rfl, .nil⟩
  | [], p :: ps, r => by cases r
  | q :: kvs, [], r => by cases r
  | q :: kvs, p :: ps, r => by
    have r : RelL K H (p.1 :: p.2 :: flatV ps) (keyU q.1 :: q.2 :: flatU kvs) := r
    cases r with
    | cons a r =>
      cases r with
      | cons b r =>
        obtain ⟨kws, e, pr⟩ := flat_rel r
        refine ⟨(q.1, p.2) :: kws, ?_, .cons ⟨rfl, b⟩ pr⟩
        rw [List.map_cons, ← e, ← key_rel a]
theorem merge_rel {K : Kw} {H : Hp} : ∀ {kws : List (Key × V)} {kvs : List (Key × U)} {a : List (Key × V)} {b : List (U × U)}, Paired (fun (p : Key × V) (q : Key × U) => p.1 = q.1 ∧ Rel K H p.2 q.2) kws kvs → RelK K H a b → RelK K H (mergeK a kws) (dputs kvs b) := by
  intro kws kvs a b pr
  induction pr generalizing a b with
  | nil => exact id
  | @cons p q ps qs h _ ih =>
    intro r
    refine ih ?_
    show RelK K H (putK a p.1 p.2) (dput b (keyU q.1) q.2)
    rw [← h.1]
    exact RelK.put r p.1 h.2
theorem pair_len {kws : List (Key × V)} {kvs : List (Key × U)} {F : Key × V → Key × U → Prop} (h : Paired F kws kvs) : kws.length = kvs.length := Paired.length h
theorem se_ddisp {pos : Pos} {keys : List (Option Expr)} {values : List Expr} {f : WL} (h : SPs X pos f keys values) (hall : keys.all (·.isSome) = true) (hl : keys.length = values.length) (h0 : keys ≠ []) (h15 : keys.length ≤ 15) : SE1 X (ddispW f) (.Dict keys values pos) := by
  obtain ⟨trs, pp, q⟩ := h
  refine ⟨_, pe_disp pp hall hl h0 h15, fun σ H σu M Qu Q rs S hf c p hp => ?_⟩
  have S1 : Sim (kwX X) (upd H p (.dK [])) (um M p (.dct false false [])) := S.new (m := .dct false false []) hp ⟨[], upd_same, .nil⟩
  have st1 : Stp H M (upd H p (.dK [])) (um M p (.dct false false [])) := Stp.new S hp
  refine q σ _ σu _ _ _ (rs.stp S st1) S1 (hf p (S.fr hp)) fun ps H2 us M2 st2 S2 rl hq => ?_
  obtain ⟨hm, kvs, rfl, hk, hq⟩ := hq
  obtain ⟨kws, e, pr⟩ := flat_rel rl
  have q2 := S2 p _ hm
  obtain ⟨kvs0, e0, r0⟩ := q2
  have e0 : H2 p = some (.dK kvs0) := e0
  cases r0
  refine ⟨e0, kws, e, by rw [pair_len pr]; exact hk, ?_⟩
  have st3 : Stp H2 M2 (upd H2 p (.dK (mergeK [] kws))) (um M2 p (.dct false false (dputs kvs []))) := Stp.mut hm
  refine c _ _ (.ref p) _ ((st1.trans S st2).trans S st3) (S2.mut (m := .dct false false (dputs kvs [])) hm rfl ⟨_, upd_same, ?_⟩) (.ref p) hq
  exact merge_rel (Paired.mapR pr fun a b x => ⟨x.1, x.2.stp S2 st3⟩) .nil
/-- element by element -/
inductive SEs (X : Cy) : WL → List Expr → Prop where
  | nil : SEs X (fun _ M Q => Q [] M) []
  | cons {e : Expr} {es : List Expr} {f : WE} {g : WL} : SE1 X f e → SEs X g es → SEs X (fun σ M Q => f σ M fun x M1 => g σ M1 fun xs M2 => Q (x :: xs) M2) (e :: es)
def flatK : List (Option Expr) → List Expr → List Expr
  | some k :: ks, v :: vs => k :: v :: flatK ks vs
  | _, _ => []
theorem sps_of {pos : Pos} : ∀ {keys : List (Option Expr)} {values : List Expr} {f : WL}, SEs X f (flatK keys values) → keys.all (·.isSome) = true → keys.length = values.length → SPs X pos f keys values
  | [], [], _, h, _, _ => by cases h; exact sps_nil
  | [], _ :: _, _, _, _, hl => by cases hl
  | _ :: _, [], _, _, _, hl => by cases hl
  | none :: _, _ :: _, _, _, ha, _ => by simp at ha
  | some k :: ks, v :: vs, _, h, ha, hl => by
    have h : SEs X _ (k :: v :: flatK ks vs) := h
    cases h with
    | cons h1 h =>
      cases h with
      | cons h2 h3 => exact sps_cons h1 h2 (sps_of h3 (by simpa using ha) (by simpa using hl))
end
end Pl

set_option maxHeartbeats 4000000
/-! targets, comprehensions, statements -/
namespace Pl
open PySem L2
def ContS (K : Kw) (H : Hp) (M : Hm) (Qu : SU → Hm → Prop) (Q : L2.St → Hp → Prop) : Prop := ∀ σ' H' σu' M', Stp H M H' M' → RelS K H' σ' σu' → Sim K H' M' → Qu σu' M' → Q σ' H'
/-- a target, assigned -/
def EvG (K : Kw) (t : TG) (tg : Tg) : Prop := ∀ (x : V) (u : U) (σ : L2.St) (H : Hp) (σu : SU) (M : Hm) (Qu : SU → Prop) (Q : L2.St → Hp → Prop), RelS K H σ σu → Rel K H x u → tgW tg u σu Qu →
  (∀ σ' σu', RelS K H σ' σu' → Qu σu' → (∀ vs, (∀ i ∈ tg.slots, i ∈ vs) → L2.wipe σ' vs = L2.wipe σ vs) → Q σ' H) → t x σ H Q
def SG (X : Cy) (e : Expr) (tg : Tg) : Prop := ∃ t, PG X e t ∧ EvG (kwX X) t tg
theorem setAll_len : ∀ (is : List Nat) (l : List U) (σ σ' : SU), setAll is l σ = some σ' → l.length = is.length
  | [], [], _, _, _ => rfl
  | [], _ :: _, _, _, h => by cases h
  | _ :: _, [], _, _, h => by cases h
  | i :: is, u :: us, σ, σ', h => by
    have q := setAll_len is us _ σ' h
    rw [List.length_cons, List.length_cons, q]
theorem wipe_set (σ : L2.St) (i : Nat) (x : Option V) : ∀ vs : List Nat, i ∈ vs → L2.wipe (σ.set i x) vs = L2.wipe σ vs
  | [], h => by cases h
  | v :: vs, h => by
    unfold L2.wipe
    by_cases hv : i ∈ vs
    · rw [wipe_set σ i x vs hv]
    · have e : i = v := by
        rcases List.mem_cons.mp h with e | e
        · exact e
        · exact absurd e hv
      subst e
      have h2 : ∀ ws : List Nat, i ∉ ws → L2.wipe (σ.set i x) ws = (L2.wipe σ ws).set i x := by
        intro ws
        induction ws with
        | nil => intro _; rfl
        | cons w ws ih =>
          intro hw
          have h3 : i ∉ ws := fun z => hw (List.mem_cons_of_mem _ z)
          have h4 : w ≠ i := fun z => hw (by rw [z]; exact List.mem_cons_self)
          unfold L2.wipe
          rw [ih h3, List.set_comm _ _ (fun z => h4 z.symm)]
      rw [h2 vs hv, List.set_set]
section
variable {X : Cy}
theorem sg_one {i : Nat} {x : Str} {pos : Pos} (hN : X.N.Nodup) (hi : X.N[i]? = some x) (hx : Loc X.env.scope x) (hf : X.fn x = true ∨ X.env.scope.names.lookup x = some .local) : SG X (.Name x pos) (.one i) :=
  ⟨_, pg_name hN hi hx hf, fun v u σ H σu M Qu Q rs r h c => c _ _ (rs.set r i) h fun vs hv => wipe_set σ i _ vs (hv i (by simp [Tg.slots]))⟩
/-- the names and their slots -/
def namesB (N : List Str) (ok : Str → Bool) : List Nat → List Expr → Bool
  | [], [] => true
  | i :: is, .Name x _ :: es => decide (N[i]? = some x) && ok x && namesB N ok is es
  | _, _ => false
theorem names_each {N : List Str} {ok : Str → Bool} {env : Env} : ∀ {is : List Nat} {es : List Expr}, namesB N ok is es = true → (assignEach es env).length = is.length ∧ (assignEach es env).findIdx? (·.1) = none
  | [], [], _ => ⟨rfl, rfl⟩
  | i :: is, e :: es, h => by
    cases e <;> first | (simp [namesB] at h; done) | skip
    unfold namesB at h
    rw [Bool.and_eq_true] at h
    obtain ⟨a, b⟩ := names_each (env := env) h.2
    refine ⟨?_, ?_⟩
    · show (assignEach es env).length + 1 = is.length + 1
      rw [a]
    · show List.findIdx? (·.1) ((false, _) :: assignEach es env) = none
      rw [List.findIdx?_cons]
      simp only [Bool.false_eq_true, if_false]
      rw [b]
      rfl
  | [], _ :: _, h => by simp [namesB] at h
  | _ :: _, [], h => by simp [namesB] at h
theorem sgs_names {ok : Str → Bool} (hN : X.N.Nodup) (hok : ∀ x, ok x = true → Loc X.env.scope x ∧ (X.fn x = true ∨ X.env.scope.names.lookup x = some .local)) : ∀ {is : List Nat} {es : List Expr}, namesB X.N ok is es = true →
    ∃ t, PGs X es t ∧ ∀ (vs : List V) (us : List U) (σ : L2.St) (H : Hp) (σu σu' : SU) (Q : L2.St → Hp → Prop), RelS (kwX X) H σ σu → RelL (kwX X) H vs us → setAll is us σu = some σu' →
      (∀ σ', RelS (kwX X) H σ' σu' → (∀ ws, (∀ i ∈ is, i ∈ ws) → L2.wipe σ' ws = L2.wipe σ ws) → Q σ' H) → t vs σ H Q
  | [], [], _ => ⟨_, pgs_nil, fun vs us σ H σu σu' Q rs r h c => by
    cases us with
    | nil =>
      cases r
      have e : some σu = some σu' := h
      cases e
      exact ⟨rfl, c σ rs fun _ _ => rfl⟩
    | cons _ _ => cases h⟩
  | i :: is, e :: es, h => by
    cases e <;> first | (simp [namesB] at h; done) | skip
    rename_i x pos
    unfold namesB at h
    rw [Bool.and_eq_true, Bool.and_eq_true] at h
    obtain ⟨⟨h1, h2⟩, h3⟩ := h
    obtain ⟨t, p, q⟩ := sgs_names hN hok h3
    obtain ⟨l1, l2⟩ := hok x h2
    refine ⟨_, pgs_cons (pg_name hN (of_decide_eq_true h1) l1 l2) p rfl, fun vs us σ H σu σu' Q rs r hs c => ?_⟩
    cases us with
    | nil => cases hs
    | cons u us =>
      cases r with
      | cons ra rb =>
        refine ⟨_, _, rfl, ?_⟩
        refine q _ _ _ H _ _ Q (rs.set ra i) rb hs fun σ' rs' hw => c σ' rs' fun ws hws => ?_
        rw [hw ws fun j hj => hws j (List.mem_cons_of_mem _ hj), wipe_set _ _ _ _ (hws i List.mem_cons_self)]
  | [], _ :: _, h => by simp [namesB] at h
  | _ :: _, [], h => by simp [namesB] at h
theorem sg_many {ok : Str → Bool} {is : List Nat} {es : List Expr} {k : Nat} {pos : Pos} (hc : X.calm = true) (hN : X.N.Nodup) (hok : ∀ x, ok x = true → Loc X.env.scope x ∧ (X.fn x = true ∨ X.env.scope.names.lookup x = some .local)) (h : namesB X.N ok is es = true) :
    SG X (.Tuple es k pos) (.many is) := by
  obtain ⟨t, p, q⟩ := sgs_names hN hok h
  obtain ⟨l1, l2⟩ := names_each (env := X.env) h
  refine ⟨_, pg_tup hc p l1 l2, fun v u σ H σu M Qu Q rs r hq c => ?_⟩
  obtain ⟨l, σ', rfl, hs, hq⟩ := hq
  cases r with
  | tup t1 rl =>
    have hlen : l.length = is.length := setAll_len is l σu σ' hs
    refine ⟨_, _, rfl, t1.sq, by rw [rl.length, hlen], ?_⟩
    exact q _ _ _ H _ _ Q rs rl hs fun σ1 rs1 hw => c σ1 σ' rs1 hq hw
end

/-! ### comprehensions -/
theorem Rel_updD {K : Kw} {H : Hp} {D : Addr} {xs ys : List V} (hD : H D = some (.lst xs)) : (∀ {v : V} {u : U}, Rel K H v u → Rel K (upd H D (.lst ys)) v u) ∧ (∀ {v : List V} {u : List U}, RelL K H v u → RelL K (upd H D (.lst ys)) v u) := by
  have tp : ∀ {a : Addr} {vs : List V}, Tp K H a vs → Tp K (upd H D (.lst ys)) a vs := fun {a vs} h => by
    rcases h with h | h
    case inr => exact .inr h
    have ne : a ≠ D := fun e => by
      have h2 : H a = some (.tup vs) := h
      rw [e, hD] at h2
      cases h2
    exact .inl ((upd_ne ne).trans h)
  have td : ∀ {a : Addr} {vs : List V}, Td K H a vs → Td K (upd H D (.lst ys)) a vs := fun {a vs} h => by
    rcases h with ⟨o, h, d⟩ | h
    · have ne : a ≠ D := fun e => by
        rw [e, hD] at h
        cases h
      exact .inl ⟨o, (upd_ne ne).trans h, d⟩
    · exact .inr h
  have rl : ∀ {a : Addr} {vs : List V}, Rl K H a vs → Rl K (upd H D (.lst ys)) a vs := fun {a vs} h => by
    rcases h with ⟨o, h⟩ | h
    · have ne : a ≠ D := fun e => by
        rw [e, hD] at h
        cases h
      exact .inl ⟨o, (upd_ne ne).trans h⟩
    · exact .inr h
  have both : ∀ n : Nat, (∀ {v : V} {u : U}, sizeOf u ≤ n → Rel K H v u → Rel K (upd H D (.lst ys)) v u) ∧ (∀ {v : List V} {u : List U}, sizeOf u ≤ n → RelL K H v u → RelL K (upd H D (.lst ys)) v u) := by
    intro n
    induction n with
    | zero =>
      refine ⟨fun {v u} h r => ?_, fun {v u} h r => ?_⟩
      · cases u <;> simp at h
      · cases u <;> simp at h
    | succ n ih =>
      refine ⟨fun {v u} h r => ?_, fun {v u} h r => ?_⟩
      · cases r with
        | non => exact .non
        | bl b => exact .bl b
        | int i => exact .int i
        | str x => exact .str x
        | ref a => exact .ref a
        | tup t rr => exact .tup (tp t) (ih.2 (by simp at h; omega) rr)
        | rol t rr => exact .rol (rl t) (ih.2 (by simp at h; omega) rr)
        | dtp t rr => exact .dtp (td t) (ih.2 (by simp at h; omega) rr)
      · cases r with
        | nil => exact .nil
        | cons a b => exact .cons (ih.1 (by simp at h; omega) a) (ih.2 (by simp at h; omega) b)
  exact ⟨fun {v u} r => (both _).1 (Nat.le_refl _) r, fun {v u} r => (both _).2 (Nat.le_refl _) r⟩
theorem Sim_updD {K : Kw} {H : Hp} {M : Hm} {D : Addr} {xs ys : List V} (S : Sim K H M) (hD : H D = some (.lst xs)) (hM : M D = none) (an : Stp K.2.2.H0 K.2.2.M0 (upd H D (.lst ys)) M) : Sim K (upd H D (.lst ys)) M := ⟨fun a o e => by
  have ne : a ≠ D := fun z => by rw [z, hM] at e; cases e
  obtain ⟨f, g⟩ := @Rel_updD K H D xs ys hD
  have q := S a o e
  cases o with
  | lst us =>
    obtain ⟨vs, e1, r⟩ := q
    exact ⟨vs, by rw [upd_ne ne]; exact e1, g r⟩
  | dct z t ks =>
    cases t with
    | false => obtain ⟨kvs, e1, r⟩ := q; exact ⟨kvs, by rw [upd_ne ne]; exact e1, Paired.mapR r fun p q x => ⟨x.1, f x.2⟩⟩
    | true => obtain ⟨kvs, e1, r⟩ := q; exact ⟨kvs, by rw [upd_ne ne]; exact e1, Paired.mapR r fun p q x => ⟨x.1, f x.2⟩⟩
  | dcn ks => obtain ⟨xs, e1, r, r2⟩ := q; exact ⟨xs, by rw [upd_ne ne]; exact e1, Paired.mapR r fun p q x => ⟨⟨x.1.1, x.1.2.1, f x.1.2.2⟩, x.2.elim fun v y => ⟨v, y.1, f y.2⟩⟩, r2⟩
  | obj cn fs => obtain ⟨dx, vs, e1, r, r2⟩ := q; exact ⟨dx, vs, by rw [upd_ne ne]; exact e1, Paired.mapR r fun p q x => ⟨x.1, f x.2⟩, r2⟩
  | exd fs => obtain ⟨vs, e1, r⟩ := q; exact ⟨vs, by rw [upd_ne ne]; exact e1, Paired.mapR r fun p q x => ⟨x.1, f x.2⟩⟩, an⟩
theorem wipe_wipe (σ : L2.St) (ws : List Nat) : L2.wipe (L2.wipe σ ws) ws = L2.wipe σ ws := by
  have gen : ∀ (us ws : List Nat) (τ : L2.St), (∀ i ∈ us, i ∈ ws) → L2.wipe (L2.wipe τ us) ws = L2.wipe τ ws := by
    intro us
    induction us with
    | nil => intro ws τ _; rfl
    | cons u us ih =>
      intro ws τ hsub
      show L2.wipe ((L2.wipe τ us).set u none) ws = _
      rw [wipe_set _ _ _ _ (hsub u List.mem_cons_self)]
      exact ih ws τ fun i hi => hsub i (List.mem_cons_of_mem _ hi)
  exact gen ws ws σ fun i hi => hi
abbrev stepW (tg : Tg) (fc : WT) (fe : WE) (σu : SU) : U → (Option U → Hm → Prop) → Hm → Prop := fun x k M => tgW tg x (wipU σu tg.slots) fun σ2 => fc σ2 M fun b M2 => if b = true then fe σ2 M2 fun y M3 => k (some y) M3 else k none M2
theorem comp_core {K : Kw} {tgr : TG} {tg : Tg} {tt : TT} {fc : WT} {te : TE} {fe : WE} {vs : List Nat} (qg : EvG K tgr tg) (qc : EvT K tt fc) (qe : EvE K te fe) (hvs : vs = tg.slots)
    {σ : L2.St} {σu : SU} {H1 : Hp} {M1 : Hm} {J : It} {items : List U} {g : Hm → Prop} {fin : List U → Hm → Prop} (rs : RelS K H1 σ σu) (S1 : Sim K H1 M1) (ok : ItOk K H1 M1 J items g) (hg0 : g M1)
    (hc : compL (stepW tg fc fe σu) g fin items [] M1) {Q : VK}
    (hfin : ∀ D acc accV H2 M2, H1 D = none → Stp H1 M1 H2 M2 → Sim K H2 M2 → M2 D = none → H2 D = some (.lst accV) → RelL K H2 accV acc → g M2 → fin acc M2 → Q (.ref D) H2) :
    ∀ D, H1 D = none → ∃ W : Nat → Nat → Hp → Prop, (∃ m, W 0 m (upd H1 D (.lst []))) ∧ ∀ i m H, W i m H →
      (J.stop i H ∧ Q (.ref D) H) ∨ (J.go i H ∧ ∃ Nx : Hp → Prop, (∀ H', Nx H' → ∃ m', m' < m ∧ W (i + 1) m' H') ∧ ∀ x H', J.yld i H x H' → tgr x (L2.wipe σ vs) H' fun σ2 H2 => L2.wipe σ2 vs = L2.wipe σ vs ∧ tt σ2 H2 fun b H3 =>
        if b = true then te σ2 H3 fun y H4 => ∃ acc, H4 D = some (.lst acc) ∧ acc.length < sizeLine ∧ Nx (upd H4 D (.lst (acc ++ [y]))) else Nx H3) := fun D hD => by
  have hMD : M1 D = none := S1.fr hD
  have neD : ∀ a o, H1 a = some o → a ≠ D := fun a o h z => by rw [z, hD] at h; cases h
  have neM : ∀ a o, M1 a = some o → a ≠ D := fun a o h z => by rw [z, hMD] at h; cases h
  let W : Nat → Nat → Hp → Prop := fun i m H2 => m = items.length - i ∧ i ≤ items.length ∧ ∃ (M2 : Hm) (acc : List U) (accV : List V), Stp H1 M1 H2 M2 ∧ Sim K H2 M2 ∧ M2 D = none ∧ H2 D = some (.lst accV) ∧ RelL K H2 accV acc ∧ g M2 ∧
    compL (stepW tg fc fe σu) g fin (items.drop i) acc M2
  refine ⟨W, ⟨items.length, by simp, Nat.zero_le _, M1, [], [], Stp.newT S1 hD, ?_, hMD, upd_same, .nil, hg0, hc⟩, ?_⟩
  · exact S1.to (Stp.newT S1 hD) fun a x e => .inl ⟨e, upd_ne (neM a x e)⟩
  · rintro i m H2 ⟨rfl, hi, M2, acc, accV, st2, S2, hMD2, hD2, racc, hg, hc⟩
    obtain ⟨go, stop⟩ := ok i H2 M2 st2 S2 hg
    by_cases hlt : i < items.length
    · right
      have hu : items[i]? = some items[i] := List.getElem?_eq_getElem hlt
      obtain ⟨jgo, jy⟩ := go _ hu
      refine ⟨jgo, fun H' => ∃ m', m' < items.length - i ∧ W (i + 1) m' H', fun H' h => h, fun x H3 hy => ?_⟩
      obtain ⟨st3, S3, rx⟩ := jy x H3 hy
      have hdrop : items.drop i = items[i] :: items.drop (i + 1) := List.drop_eq_getElem_cons hlt
      rw [hdrop] at hc
      have hc : tgW tg items[i] (wipU σu tg.slots) fun σ2 => fc σ2 M2 fun b M3 => if b = true then fe σ2 M3 fun y M4 => (g M4 ∧ ((some y : Option U).isSome = true → acc.length < LIM) ∧ compL (stepW tg fc fe σu) g fin (items.drop (i + 1)) (acc ++ (some y).toList) M4)
          else (g M3 ∧ ((none : Option U).isSome = true → acc.length < LIM) ∧ compL (stepW tg fc fe σu) g fin (items.drop (i + 1)) (acc ++ (none : Option U).toList) M3) := hc
      have rs3 : RelS K H3 (L2.wipe σ vs) (wipU σu tg.slots) := by
        rw [hvs]
        exact (rs.stp S1 (st2.trans S1 st3)).wipe _
      refine qg x items[i] (L2.wipe σ vs) H3 (wipU σu tg.slots) M2 _ _ rs3 rx hc fun σ4 σu4 rs4 hc4 hw => ?_
      refine ⟨by
        have e := hw vs (by rw [hvs]; exact fun i hi => hi)
        rw [e]
        exact wipe_wipe σ vs, ?_⟩
      refine qc σ4 H3 σu4 M2 _ _ rs4 S3 hc4 fun b H5 M5 st5 S5 hb => ?_
      have stA : Stp H1 M1 H5 M5 := (st2.trans S1 st3).trans S1 st5
      have hD3 := st3.keep D _ hD2 hMD2
      have hD5 := st5.keep D _ hD3.1 hD3.2
      cases b with
      | false =>
        obtain ⟨g5, _, hrest⟩ := hb
        refine ⟨_, by omega, rfl, by omega, M5, acc, accV, stA, S5, hD5.2, hD5.1, (racc.stp S2 st3).stp S3 st5, g5, ?_⟩
        simpa using hrest
      | true =>
        refine qe σ4 H5 σu4 M5 _ _ (rs4.stp S3 st5) S5 hb fun y H6 uy M6 st6 S6 ry hk => ?_
        obtain ⟨g6, hsz, hrest⟩ := hk
        have hD6 := st6.keep D _ hD5.1 hD5.2
        have racc6 := ((racc.stp S2 st3).stp S3 st5).stp S5 st6
        obtain ⟨f1, f2⟩ := @Rel_updD K H6 D accV (accV ++ [y]) hD6.1
        have stN : Stp H1 M1 (upd H6 D (.lst (accV ++ [y]))) M6 := ⟨fun a o h n => by
          have z := (stA.trans S1 st6).keep a o h n
          exact ⟨by rw [upd_ne (neD a o h)]; exact z.1, z.2⟩, fun a t ks e => by
          have z := (stA.trans S1 st6).lock a t ks e
          exact ⟨by rw [upd_ne (neM a _ e)]; exact z.1, z.2⟩⟩
        exact ⟨accV, hD6.1, by rw [racc6.length]; exact lt_line (hsz rfl), _, by omega, rfl, by omega, M6, acc ++ [uy], accV ++ [y], stN, Sim_updD S6 hD6.1 hD6.2 (S1.antr stN), hD6.2, upd_same, f2 (racc6.append (.cons ry .nil)), g6, hrest⟩
    · left
      have e : i = items.length := by omega
      subst e
      refine ⟨stop rfl, hfin D acc accV H2 M2 hD st2 S2 hMD2 hD2 racc hg ?_⟩
      have z := hc
      rw [List.drop_length] at z
      exact z
/-- the new list joins what may change -/
theorem join_new {K : Kw} {H : Hp} {M : Hm} {H1 : Hp} {M1 : Hm} {H2 : Hp} {M2 : Hm} {D : Addr} {acc : List U} {accV : List V} (S : Sim K H M) (st : Stp H M H1 M1) (S1 : Sim K H1 M1) (hD : H1 D = none) (st2 : Stp H1 M1 H2 M2) (S2 : Sim K H2 M2) (hD2 : H2 D = some (.lst accV)) (r : RelL K H2 accV acc) :
    Stp H M H2 (um M2 D (.lst acc)) ∧ Sim K H2 (um M2 D (.lst acc)) := by
  have z := st.trans S st2
  have stN : Stp H M H2 (um M2 D (.lst acc)) := by
    refine ⟨fun a o h n => ?_, fun a t ks e => ?_⟩
    · have ne : a ≠ D := fun q => by
        have h2 := (st.keep a o h n).1
        rw [q, hD] at h2
        cases h2
      exact ⟨(z.keep a o h n).1, by rw [um_ne ne]; exact (z.keep a o h n).2⟩
    · have ne : a ≠ D := fun q => by
        obtain ⟨x, hx⟩ := (S a _ e).has
        have h2 := (st.lock a t ks e).1
        rw [hx, q, hD] at h2
        cases h2
      exact ⟨(z.lock a t ks e).1, by rw [um_ne ne]; exact (z.lock a t ks e).2⟩
  refine ⟨stN, fun a o ha => ?_, S.antr stN⟩
  by_cases hz : a = D
  · subst hz
    rw [um_same] at ha
    cases ha
    exact ⟨accV, hD2, r⟩
  · rw [um_ne hz] at ha
    exact S2 a o ha
theorem ev_comp {K : Kw} {ti : TI} {fi : WI} {tgr : TG} {tg : Tg} {tt : TT} {fc : WT} {te : TE} {fe : WE} {vs : List Nat} (qi : EvI K ti fi) (qg : EvG K tgr tg) (qc : EvT K tt fc) (qe : EvE K te fe) (hvs : vs = tg.slots) :
    EvE K (tLc ti tgr tt te vs) (compW fi tg fc fe) := fun σ H σu M Qu Q rs S hf c => by
  refine qi σ H σu M _ _ rs S hf fun J H1 items g ex M1 st S1 ok hg0 hex hq => ?_
  subst hex
  refine comp_core qg qc qe hvs (rs.stp S st) S1 ok hg0 hq fun D acc accV H2 M2 hD st2 S2 hMD2 hD2 r hg hfin => ?_
  obtain ⟨a, b⟩ := join_new S st S1 hD st2 S2 hD2 r
  exact c (.ref D) H2 (.ref D) _ a b (.ref D) (hfin D hMD2)
/-! ### over a dict's keys -/
theorem lock_stp {K : Kw} {H : Hp} {M : Hm} (S : Sim K H M) {d : Addr} {t : Bool} {ks : List (U × U)} (hm : M d = some (.dct false t ks)) :
    ∃ u, H d = some u ∧ Mut (some u) ∧ (∀ od, Stp H M (upd H d (.frz od u)) (um M d (.dct true t ks)) ∧ Sim K (upd H d (.frz od u)) (um M d (.dct true t ks)) ∧
      ((∃ kvs, u = .dK kvs ∧ RelK K H kvs ks ∧ t = false) ∨ ∃ kvs, u = .dT kvs ∧ RelT K H kvs ks ∧ t = true)) := by
  have q := S d _ hm
  cases t with
  | false =>
    obtain ⟨kvs, e, r⟩ := q
    refine ⟨_, e, trivial, fun od => ⟨Stp.mut hm, S.mut (m := .dct true false ks) hm rfl ⟨kvs, ⟨od, upd_same⟩, ?_⟩, .inl ⟨kvs, rfl, r, rfl⟩⟩⟩
    exact Paired.mapR r fun p q x => ⟨x.1, x.2.stp S (Stp.mut (m := .dct true false ks) hm)⟩
  | true =>
    obtain ⟨kvs, e, r⟩ := q
    refine ⟨_, e, trivial, fun od => ⟨Stp.mut hm, S.mut (m := .dct true true ks) hm rfl ⟨kvs, ⟨od, upd_same⟩, ?_⟩, .inr ⟨kvs, rfl, r, rfl⟩⟩⟩
    exact Paired.mapR r fun p q x => ⟨x.1, x.2.stp S (Stp.mut (m := .dct true true ks) hm)⟩
/-- what the walk yields -/
theorem it_keys {K : Kw} {H0 : Hp} {M0 : Hm} {d : Addr} {od : Obj} {kvs : List (Key × V)} {ks : List (U × U)} (e : H0 d = some (.frz od (.dK kvs))) (hm : M0 d = some (.dct true false ks)) (r : RelK K H0 kvs ks) : ItOk K H0 M0 (Itk d od kvs) (ks.map (·.1)) (fun M => M d = some (.dct true false ks)) := fun i H M st S hM => by
  have e2 : H d = some (.frz od (.dK kvs)) := by rw [(st.lock d _ _ hm).1, e]
  have rk := relK_keys r
  have hlen : kvs.length = (ks.map (·.1)).length := by rw [List.length_map]; exact RelK.len r
  refine ⟨fun u hu => ?_, fun hl => ⟨e2, by rw [hlen]; exact Nat.le_of_eq hl⟩⟩
  have hi : i < kvs.length := by rw [hlen]; exact (List.getElem?_eq_some_iff.mp hu).1
  refine ⟨⟨e2, hi⟩, fun x H' ⟨eH, k, v, hk, hx⟩ => ?_⟩
  subst eH hx
  refine ⟨Stp.refl _ M, S, ?_⟩
  obtain ⟨v2, h2, r2⟩ := rk.get hu
  rw [List.getElem?_map, hk] at h2
  cases h2
  cases k with
  | inl n =>
    have e3 : u = .int n := by cases r2; rfl
    rw [e3]
    exact .int n
  | inr n =>
    have e3 : u = .str n := by cases r2; rfl
    rw [e3]
    exact .str n
theorem relT_get {K : Kw} {H : Hp} : ∀ {kvs : List (List Key × V)} {ks : List (U × U)} {i : Nat} {u : U}, RelT K H kvs ks → (ks.map (·.1))[i]? = some u → ∃ k v, kvs[i]? = some (k, v) ∧ u = .tup (k.map keyU)
  | [], _, i, u, r, h => by unfold RelT at r; cases r; simp at h
  | (k, v) :: kvs, _, i, u, r, h => by
    unfold RelT at r
    cases r with
    | @cons p q ps qs a b => cases i with
      | zero =>
        simp at h
        exact ⟨k, v, rfl, by rw [← h]; exact a.1⟩
      | succ i =>
        obtain ⟨k2, v2, e1, e2⟩ := relT_get (K := K) (H := H) (kvs := kvs) (i := i) b (by simpa using h)
        exact ⟨k2, v2, by simpa using e1, e2⟩
theorem it_keysT {K : Kw} {H0 : Hp} {M0 : Hm} {d : Addr} {od : Obj} {kvs : List (List Key × V)} {ks : List (U × U)} (e : H0 d = some (.frz od (.dT kvs))) (hm : M0 d = some (.dct true true ks)) (r : RelT K H0 kvs ks) : ItOk K H0 M0 (Itkt d od kvs) (ks.map (·.1)) (fun M => M d = some (.dct true true ks)) := fun i H M st S hM => by
  have e2 : H d = some (.frz od (.dT kvs)) := by rw [(st.lock d _ _ hm).1, e]
  have hlen : kvs.length = (ks.map (·.1)).length := by rw [List.length_map]; exact RelT.len r
  refine ⟨fun u hu => ?_, fun hl => ⟨e2, by rw [hlen]; exact Nat.le_of_eq hl⟩⟩
  have hi : i < kvs.length := by rw [hlen]; exact (List.getElem?_eq_some_iff.mp hu).1
  refine ⟨⟨e2, hi⟩, fun x H' ⟨eH, k, v, q, hk, hx, ht⟩ => ?_⟩
  subst eH hx
  refine ⟨Stp.refl _ M, S, ?_⟩
  obtain ⟨k2, v2, h2, e3⟩ := relT_get r hu
  rw [hk] at h2
  cases h2
  rw [e3]
  exact .tup (.inl ht) (relL_keys k)
/-- the walk over a locked dict that stands in a slot -/
theorem keys_run {K : Kw} {σ : L2.St} {H : Hp} {d : Addr} {i : Nat} {od : Obj} {u : HO} {t : Bool} {ks : List (U × U)} {M : Hm} {R : It → Hp → Prop} (hs : σ[i]? = some (some (.ref d))) (S : Sim K H M) (he : H d = some (.frz od u)) (hm : M d = some (.dct true t ks))
    (hu : (∃ kvs, u = .dK kvs ∧ RelK K H kvs ks ∧ t = false) ∨ ∃ kvs, u = .dT kvs ∧ RelT K H kvs ks ∧ t = true) (k : ∀ J, ItOk K H M J (ks.map (·.1)) (fun M => M d = some (.dct true t ks)) → R J H) : L2.iKeys (tVar i) σ H R := by
  refine ⟨_, hs, d, od, rfl, ?_⟩
  rcases hu with ⟨kvs, rfl, r, rfl⟩ | ⟨kvs, rfl, r, rfl⟩
  · exact .inl ⟨kvs, he, k _ (it_keys he hm r)⟩
  · exact .inr ⟨kvs, he, k _ (it_keysT he hm r)⟩
theorem hu_stp {K : Kw} {H H' : Hp} {M M' : Hm} (S : Sim K H M) (st : Stp H M H' M') {u : HO} {t : Bool} {ks : List (U × U)} (hu : (∃ kvs, u = .dK kvs ∧ RelK K H kvs ks ∧ t = false) ∨ ∃ kvs, u = .dT kvs ∧ RelT K H kvs ks ∧ t = true) :
    (∃ kvs, u = .dK kvs ∧ RelK K H' kvs ks ∧ t = false) ∨ ∃ kvs, u = .dT kvs ∧ RelT K H' kvs ks ∧ t = true := by
  rcases hu with ⟨kvs, e, r, e2⟩ | ⟨kvs, e, r, e2⟩
  · exact .inl ⟨kvs, e, Paired.mapR r fun p q x => ⟨x.1, x.2.stp S st⟩, e2⟩
  · exact .inr ⟨kvs, e, Paired.mapR r fun p q x => ⟨x.1, x.2.stp S st⟩, e2⟩
/-- unlocked again -/
theorem unlock_stp {K : Kw} {H : Hp} {M : Hm} {H1 : Hp} {M1 : Hm} {H2 : Hp} {M2 : Hm} {d : Addr} {od : Obj} {u : HO} {t : Bool} {ks : List (U × U)} (S : Sim K H M) (hm : M d = some (.dct false t ks)) (he1 : H1 d = some (.frz od u)) (hm1 : M1 d = some (.dct true t ks)) (st : Stp H M H1 M1) (S1 : Sim K H1 M1)
    (st2 : Stp H1 M1 H2 M2) (S2 : Sim K H2 M2) (hm2 : M2 d = some (.dct true t ks)) (hu : (∃ kvs, u = .dK kvs ∧ RelK K H2 kvs ks ∧ t = false) ∨ ∃ kvs, u = .dT kvs ∧ RelT K H2 kvs ks ∧ t = true) :
    H2 d = some (.frz od u) ∧ Stp H M (upd H2 d u) (um M2 d (.dct false t ks)) ∧ Sim K (upd H2 d u) (um M2 d (.dct false t ks)) ∧ (∀ v x, Rel K H2 v x → Rel K (upd H2 d u) v x) ∧ (∀ v x, RelL K H2 v x → RelL K (upd H2 d u) v x) := by
  have e2 : H2 d = some (.frz od u) := by rw [(st2.lock d _ _ hm1).1, he1]
  have tp : ∀ {a : Addr} {vs : List V}, Tp K H2 a vs → Tp K (upd H2 d u) a vs := fun {a vs} h => by
    rcases h with h | h
    case inr => exact .inr h
    have ne : a ≠ d := fun e => by
      have h2 : H2 a = some (.tup vs) := h
      rw [e, e2] at h2
      cases h2
    exact .inl ((upd_ne ne).trans h)
  have noT : ∀ o vs, H2 d ≠ some (.frz o (.tup vs)) := fun o vs h => by
    rw [e2] at h
    rcases hu with ⟨kvs, rfl, _⟩ | ⟨kvs, rfl, _⟩ <;> cases h
  have td : ∀ {a : Addr} {vs : List V}, Td K H2 a vs → Td K (upd H2 d u) a vs := fun {a vs} h => by
    rcases h with ⟨o, h, dn⟩ | h
    · have ne : a ≠ d := fun e => noT o vs (by rw [← e]; exact h)
      exact .inl ⟨o, (upd_ne ne).trans h, dn⟩
    · exact .inr h
  have nol : ∀ o vs, H2 d ≠ some (.frz o (.lst vs)) := fun o vs h => by
    rw [e2] at h
    rcases hu with ⟨kvs, rfl, _⟩ | ⟨kvs, rfl, _⟩ <;> cases h
  have rl : ∀ {a : Addr} {vs : List V}, Rl K H2 a vs → Rl K (upd H2 d u) a vs := fun {a vs} h => by
    rcases h with ⟨o, h⟩ | h
    · have ne : a ≠ d := fun e => nol o vs (by rw [← e]; exact h)
      exact .inl ⟨o, (upd_ne ne).trans h⟩
    · exact .inr h
  have both : ∀ n : Nat, (∀ {v : V} {x : U}, sizeOf x ≤ n → Rel K H2 v x → Rel K (upd H2 d u) v x) ∧ (∀ {v : List V} {x : List U}, sizeOf x ≤ n → RelL K H2 v x → RelL K (upd H2 d u) v x) := by
    intro n
    induction n with
    | zero =>
      refine ⟨fun {v u} h r => ?_, fun {v u} h r => ?_⟩
      · cases u <;> simp at h
      · cases u <;> simp at h
    | succ n ih =>
      refine ⟨fun {v u} h r => ?_, fun {v u} h r => ?_⟩
      · cases r with
        | non => exact .non
        | bl b => exact .bl b
        | int i => exact .int i
        | str x => exact .str x
        | ref a => exact .ref a
        | tup t rr => exact .tup (tp t) (ih.2 (by simp at h; omega) rr)
        | rol t rr => exact .rol (rl t) (ih.2 (by simp at h; omega) rr)
        | dtp t rr => exact .dtp (td t) (ih.2 (by simp at h; omega) rr)
      · cases r with
        | nil => exact .nil
        | cons a b => exact .cons (ih.1 (by simp at h; omega) a) (ih.2 (by simp at h; omega) b)
  have f1 : ∀ v x, Rel K H2 v x → Rel K (upd H2 d u) v x := fun v x r => (both _).1 (Nat.le_refl _) r
  have f2 : ∀ v x, RelL K H2 v x → RelL K (upd H2 d u) v x := fun v x r => (both _).2 (Nat.le_refl _) r
  have z := st.trans S st2
  have stN : Stp H M (upd H2 d u) (um M2 d (.dct false t ks)) := by
    refine ⟨fun a o h n => ?_, fun a t' ks' e => ?_⟩
    · have ne : a ≠ d := fun q => by rw [q, hm] at n; cases n
      exact ⟨by rw [upd_ne ne]; exact (z.keep a o h n).1, by rw [um_ne ne]; exact (z.keep a o h n).2⟩
    · have ne : a ≠ d := fun q => by rw [q, hm] at e; cases e
      exact ⟨by rw [upd_ne ne]; exact (z.lock a _ _ e).1, by rw [um_ne ne]; exact (z.lock a _ _ e).2⟩
  refine ⟨e2, stN, ⟨fun a o ha => ?_, S.antr stN⟩, f1, f2⟩
  · by_cases hz : a = d
    · subst hz
      rw [um_same] at ha
      cases ha
      rcases hu with ⟨kvs, rfl, r, rfl⟩ | ⟨kvs, rfl, r, rfl⟩
      · exact ⟨kvs, upd_same, Paired.mapR r fun p q x => ⟨x.1, f1 _ _ x.2⟩⟩
      · exact ⟨kvs, upd_same, Paired.mapR r fun p q x => ⟨x.1, f1 _ _ x.2⟩⟩
    · rw [um_ne hz] at ha
      have q := S2 a o ha
      cases o with
      | lst us =>
        obtain ⟨vs, e1, r⟩ := q
        exact ⟨vs, by rw [upd_ne hz]; exact e1, f2 _ _ r⟩
      | dct z t ks =>
        cases t with
        | false => obtain ⟨kvs, e1, r⟩ := q; exact ⟨kvs, by rw [upd_ne hz]; exact e1, Paired.mapR r fun p q x => ⟨x.1, f1 _ _ x.2⟩⟩
        | true => obtain ⟨kvs, e1, r⟩ := q; exact ⟨kvs, by rw [upd_ne hz]; exact e1, Paired.mapR r fun p q x => ⟨x.1, f1 _ _ x.2⟩⟩
      | dcn ks => obtain ⟨xs, e1, r, r2⟩ := q; exact ⟨xs, by rw [upd_ne hz]; exact e1, Paired.mapR r fun p q x => ⟨⟨x.1.1, x.1.2.1, f1 _ _ x.1.2.2⟩, x.2.elim fun v y => ⟨v, y.1, f1 _ _ y.2⟩⟩, r2⟩
      | obj cn fs => obtain ⟨dx, vs, e1, r, r2⟩ := q; exact ⟨dx, vs, by rw [upd_ne hz]; exact e1, Paired.mapR r fun p q x => ⟨x.1, f1 _ _ x.2⟩, r2⟩
      | exd fs => obtain ⟨vs, e1, r⟩ := q; exact ⟨vs, by rw [upd_ne hz]; exact e1, Paired.mapR r fun p q x => ⟨x.1, f1 _ _ x.2⟩⟩
def keysI (i : Nat) : WI := fun σ M Q => ∃ j d t ks, E.var i = .var j ∧ σ[j]? = some (some (.ref d)) ∧ M d = some (.dct false t ks) ∧
      Q (ks.map (·.1)) (fun M' => M' d = some (.dct true t ks)) (fun P M' => M' d = some (.dct true t ks) ∧ P (um M' d (.dct false t ks))) (um M d (.dct true t ks))
theorem ev_compK {K : Kw} {i : Nat} {tgr : TG} {tg : Tg} {tt : TT} {fc : WT} {te : TE} {fe : WE} {vs : List Nat} (qg : EvG K tgr tg) (qc : EvT K tt fc) (qe : EvE K te fe) (hvs : vs = tg.slots) :
    EvE K (tLockE (tLc (L2.iKeys (tVar i)) tgr tt te vs)) (compW (keysI i) tg fc fe) := fun σ H σu M Qu Q rs S hf c => by
  obtain ⟨j, d, t, ks, ej, hs, hm, hq⟩ := hf
  cases ej
  obtain ⟨v, hv, rv⟩ := rs.2 i _ hs
  obtain rfl : v = .ref d := by cases rv; rfl
  obtain ⟨u, hd, mu, lk⟩ := lock_stp S hm
  refine ⟨d, u, hd, mu, fun od => ?_⟩
  obtain ⟨st, S1, hu⟩ := lk od
  have hu1 := hu_stp S st hu
  refine keys_run hv S1 upd_same um_same hu1 fun J ok => ?_
  refine comp_core (Q := fun v H' => H' d = some (.frz od u) ∧ Q v (upd H' d u)) qg qc qe hvs (rs.stp S st) S1 ok um_same hq fun D acc accV H2 M2 hD st2 S2 hMD2 hD2 r hg hfin => ?_
  obtain ⟨e2, st3, S3, f1, f2⟩ := unlock_stp S hm upd_same um_same st S1 st2 S2 hg (hu_stp S1 st2 hu1)
  refine ⟨e2, ?_⟩
  have ne : D ≠ d := fun z => by rw [z, upd_same] at hD; cases hD
  have hD3 : (upd H2 d u) D = some (.lst accV) := by rw [upd_ne ne]; exact hD2
  have hHD : H D = none := (upd_ne (H := H) (o := HO.frz od u) ne).symm.trans hD
  obtain ⟨a, b⟩ := join_new S (Stp.refl H M) S hHD st3 S3 hD3 (f2 _ _ r)
  refine c (.ref D) _ (.ref D) _ a b (.ref D) (hfin.2 D ?_)
  rw [um_ne ne]
  exact hMD2
end Pl

set_option maxHeartbeats 4000000
/-! canonical readings; comprehensions as expressions; statements -/
namespace Pl
open PySem L2
def cE (K : Kw) (f : WE) : TE := fun σ H Q => ∃ (σu : SU) (M : Hm) (Qu : QU), RelS K H σ σu ∧ Sim K H M ∧ f σu M Qu ∧ Cont K H M Qu Q
def cT (K : Kw) (f : WT) : TT := fun σ H Q => ∃ (σu : SU) (M : Hm) (Qu : Bool → Hm → Prop), RelS K H σ σu ∧ Sim K H M ∧ f σu M Qu ∧ ContB K H M Qu Q
def cG (K : Kw) (tg : Tg) : TG := fun x σ H Q => ∃ (u : U) (σu : SU) (Qu : SU → Prop), RelS K H σ σu ∧ Rel K H x u ∧ tgW tg u σu Qu ∧
  ∀ σ' σu', RelS K H σ' σu' → Qu σu' → (∀ vs, (∀ i ∈ tg.slots, i ∈ vs) → L2.wipe σ' vs = L2.wipe σ vs) → Q σ' H
theorem ev_cE {K : Kw} {f : WE} : EvE K (cE K f) f := fun σ H σu M Qu Q rs S hf c => ⟨σu, M, Qu, rs, S, hf, c⟩
theorem ev_cT {K : Kw} {f : WT} : EvT K (cT K f) f := fun σ H σu M Qu Q rs S hf c => ⟨σu, M, Qu, rs, S, hf, c⟩
theorem ev_cG {K : Kw} {tg : Tg} : EvG K (cG K tg) tg := fun x u σ H σu M Qu Q rs r h c => ⟨u, σu, Qu, rs, r, h, c⟩
theorem SE1.pe {X : Cy} {f : WE} {x : Expr} (h : SE1 X f x) : PE X x (cE (kwX X) f) := by
  obtain ⟨t, p, q⟩ := h
  exact ⟨fun pins s σ H Q I ⟨σu, M, Qu, rs, S, hf, c⟩ => p.run pins s σ H Q I (q σ H σu M Qu Q rs S hf c)⟩
theorem ST.pt {X : Cy} {f : WT} {x : Expr} (h : ST X f x) : PT X x (cT (kwX X) f) := by
  obtain ⟨t, p, q⟩ := h
  exact ⟨fun pins s σ H Q I ⟨σu, M, Qu, rs, S, hf, c⟩ => p.run pins s σ H Q I (q σ H σu M Qu Q rs S hf c)⟩
theorem SG.pg {X : Cy} {x : Expr} {tg : Tg} (h : SG X x tg) : PG X x (cG (kwX X) tg) := by
  obtain ⟨t, p, q⟩ := h
  exact ⟨fun pins s σ H v u Q I r ⟨a, σu, Qu, rs, ra, hf, c⟩ => p.run pins s σ H v u Q I r (q v a σ H σu (fun _ => none) Qu Q rs ra hf c)⟩
section
variable {X : Cy}
/-- the block of a comprehension -/
abbrev Blk (X : Cy) (scope : Scope) (s : Shared) (H : Hp) (C : Addr) (cl : List (Str × Addr)) (fp : List Addr) : Cy := ⟨X.toCx.blk s H scope (compEnvC scope cl C X.env) fp, X.z⟩
def notSet : Expr → Bool
  | .Set _ _ _ => false
  | _ => true
theorem no_set' {iter : Expr} {env : Env} (h : notSet iter = true) : ∀ x, foldedSetIterable iter env x = pure x := fun x => by
  cases iter <;> first | (cases h; done) | rfl
structure CompOk (X : Cy) (tgE elt : Expr) (ifs : List Expr) (scope : Scope) (own : List (Str × Nat)) (tg : Tg) (fc : WT) (fe : WE) : Prop where
  calm : X.calm = true
  nd : X.N.Nodup
  blk : BlkOk X.N X.env.scope scope own
  own : own.map (·.2) = tg.slots
  g : ∀ s H C cl fp, SG (Blk X scope s H C cl fp) tgE tg
  c : (ifs = [] ∧ fc = fun _ M Q => Q true M) ∨ ∃ i, ifs = [i] ∧ ∀ s H C cl fp, ST (Blk X scope s H C cl fp) fc i
  e : ∀ s H C cl fp, SE1 (Blk X scope s H C cl fp) fe elt
theorem CompOk.run {tgE elt : Expr} {ifs : List Expr} {scope : Scope} {own : List (Str × Nat)} {tg : Tg} {fc : WT} {fe : WE} (h : CompOk X tgE elt ifs scope own tg fc fe) :
    ∃ tt, (∀ s H C cl fp, PG (Blk X scope s H C cl fp) tgE (cG (kwX X) tg)) ∧ (∀ s H C cl fp, PTs (Blk X scope s H C cl fp) ifs tt) ∧ (∀ s H C cl fp, PE (Blk X scope s H C cl fp) elt (cE (kwX X) fe)) ∧ EvT (kwX X) tt fc := by
  rcases h.c with ⟨rfl, rfl⟩ | ⟨i, rfl, hi⟩
  · exact ⟨tYes, fun s H C cl fp => (h.g s H C cl fp).pg, fun _ _ _ _ _ => pts_nil, fun s H C cl fp => (h.e s H C cl fp).pe, fun σ H σu M Qu Q rs S hf c => c _ _ _ (Stp.refl H M) S hf⟩
  · exact ⟨cT (kwX X) fc, fun s H C cl fp => (h.g s H C cl fp).pg, fun s H C cl fp => pts_one (hi s H C cl fp).pt, fun s H C cl fp => (h.e s H C cl fp).pe, ev_cT⟩
theorem se_comp {tgE iter elt : Expr} {ifs : List Expr} {scope : Scope} {own : List (Str × Nat)} {tg : Tg} {fi : WI} {fc : WT} {fe : WE} {pos : Pos} (hi : SI X tgE iter fi) (h : CompOk X tgE elt ifs scope own tg fc fe) (hs : notSet iter = true) :
    SE1 X (compW fi tg fc fe) (.ListComp elt [⟨tgE, iter, ifs, 0⟩] scope pos) := by
  obtain ⟨ti, p, q⟩ := hi
  obtain ⟨tt, h1, h2, h3, h4⟩ := h.run
  exact ⟨_, pe_lc h.calm h.nd p h.blk h1 h2 h3 (no_set' hs), ev_comp q ev_cG h4 ev_cE h.own⟩
theorem se_compK {tgE iter elt : Expr} {i : Nat} {ifs : List Expr} {scope : Scope} {own : List (Str × Nat)} {tg : Tg} {fc : WT} {fe : WE} {pos : Pos} (hi : PE X iter (tVar i)) (h : CompOk X tgE elt ifs scope own tg fc fe) (hs : notSet iter = true) :
    SE1 X (compW (keysI i) tg fc fe) (.ListComp elt [⟨tgE, iter, ifs, 0⟩] scope pos) := by
  obtain ⟨tt, h1, h2, h3, h4⟩ := h.run
  exact ⟨_, pe_lock (pe_lc h.calm h.nd (pi_keys hi) h.blk h1 h2 h3 (no_set' hs)), ev_compK ev_cG h4 ev_cE h.own⟩
end

/-! ### statements -/
structure ContD (K : Kw) (H : Hp) (M : Hm) (Du : EndsU) (D : Ends) : Prop where
  nx : ContS K H M Du.nx D.nx
  rt : Cont K H M Du.rt D.rt
  bk : ContS K H M Du.bk D.bk
  ct : ContS K H M Du.ct D.ct
theorem ContS.tr {K : Kw} {H H1 : Hp} {M M1 : Hm} {Qu : SU → Hm → Prop} {Q : L2.St → Hp → Prop} (S0 : Sim K H M) (t : Stp H M H1 M1) (c : ContS K H M Qu Q) : ContS K H1 M1 Qu Q := fun σ' H' σu' M' t' rs S q => c σ' H' σu' M' (t.trans S0 t') rs S q
theorem ContD.tr {K : Kw} {H H1 : Hp} {M M1 : Hm} {Du : EndsU} {D : Ends} (S0 : Sim K H M) (t : Stp H M H1 M1) (c : ContD K H M Du D) : ContD K H1 M1 Du D := ⟨c.nx.tr S0 t, c.rt.tr S0 t, c.bk.tr S0 t, c.ct.tr S0 t⟩
abbrev WSt := EndsU → SU → Hm → Prop
def EvS (K : Kw) (t : TS) (f : WSt) : Prop := ∀ (D : Ends) (Du : EndsU) (σ : L2.St) (H : Hp) (σu : SU) (M : Hm), RelS K H σ σu → Sim K H M → f Du σu M → ContD K H M Du D → t D σ H
def SS (X : Cy) (f : WSt) (st : Stmt) : Prop := ∃ t, PS X st t ∧ EvS (kwX X) t f
def SSs (X : Cy) (f : WSt) (sts : List Stmt) : Prop := ∃ t, PSs X sts t ∧ EvS (kwX X) t f
section
variable {X : Cy}
theorem sss_nil : SSs X (fun D σ M => D.nx σ M) [] := ⟨_, pss_nil, fun D Du σ H σu M rs S h c => c.nx _ _ _ _ (Stp.refl H M) rs S h⟩
theorem sss_cons {st : Stmt} {sts : List Stmt} {f g : WSt} (h1 : SS X f st) (h2 : SSs X g sts) : SSs X (fun D σ M => f { D with nx := g D } σ M) (st :: sts) := by
  obtain ⟨t1, p1, q1⟩ := h1
  obtain ⟨t2, p2, q2⟩ := h2
  refine ⟨_, pss_cons p1 p2, fun D Du σ H σu M rs S h c => ?_⟩
  exact q1 _ { Du with nx := g Du } σ H σu M rs S h ⟨fun σ' H' σu' M' st rs' S' hq => q2 D Du σ' H' σu' M' rs' S' hq (c.tr S st), c.rt, c.bk, c.ct⟩
theorem ss_pass {pos : Pos} : SS X (fun D σ M => D.nx σ M) (.Pass pos) := ⟨_, ps_pass, fun D Du σ H σu M rs S h c => c.nx _ _ _ _ (Stp.refl H M) rs S h⟩
theorem ss_break {pos : Pos} : SS X (fun D σ M => D.bk σ M) (.Break pos) := ⟨_, ps_break, fun D Du σ H σu M rs S h c => c.bk _ _ _ _ (Stp.refl H M) rs S h⟩
theorem ss_cont {pos : Pos} : SS X (fun D σ M => D.ct σ M) (.Continue pos) := ⟨_, ps_continue, fun D Du σ H σu M rs S h c => c.ct _ _ _ _ (Stp.refl H M) rs S h⟩
theorem ss_nvr {st : Stmt} : SS X (fun _ _ _ => False) st := ⟨_, ps_never, fun D Du σ H σu M rs S h c => h.elim⟩
theorem sss_nvr {st : List Stmt} : SSs X (fun _ _ _ => False) st := ⟨_, pss_never, fun D Du σ H σu M rs S h c => h.elim⟩
theorem ss_ret {e : Expr} {f : WE} {pos : Pos} (h : SE1 X f e) : SS X (fun D σ M => f σ M D.rt) (.Return (some e) pos) := by
  obtain ⟨t, p, q⟩ := h
  exact ⟨_, ps_ret p, fun D Du σ H σu M rs S h c => q σ H σu M _ _ rs S h c.rt⟩
theorem ss_retN {pos : Pos} : SS X (fun D _ M => D.rt .non M) (.Return none pos) := ⟨_, ps_retN, fun D Du σ H σu M rs S h c => c.rt.at_ S .non h⟩
def isComp : Expr → Bool
  | .ListComp .. => true
  | .SetComp .. => true
  | .DictComp .. => true
  | _ => false
theorem no_swap {e : Expr} {t : Option Expr} {l : Nat} {env : Env} (h : isComp e = false) : swapsWith e t l env = pure false := by
  cases e <;> first | (cases h; done) | rfl
theorem ss_expr {e : Expr} {f : WE} {pos : Pos} (hc : isComp e = false) (h : SE1 X f e) : SS X (fun D σ M => f σ M fun _ M1 => D.nx σ M1) (.Expr e pos) := by
  obtain ⟨t, p, q⟩ := h
  refine ⟨_, ps_expr p (no_swap hc), fun D Du σ H σu M rs S h c => ?_⟩
  exact q σ H σu M _ _ rs S h fun v H' u M' st S' r hq => c.nx _ _ _ _ st (rs.stp S st) S' hq
theorem ev_asg {K : Kw} {i : Nat} {t : TE} {f : WE} (q : EvE K t f) : EvS K (tAsg t (gName i)) (fun D σ M => f σ M fun x M1 => D.nx (σ.set i (some x)) M1) := fun D Du σ H σu M rs S h c => by
  exact q σ H σu M _ _ rs S h fun v H' u M' st S' r hq => c.nx _ _ _ _ st ((rs.stp S st).set r i) S' hq
theorem ss_asg {i : Nat} {x : Str} {e : Expr} {f : WE} {pos pos' : Pos} (hN : X.N.Nodup) (hi : X.N[i]? = some x) (hx : Loc X.env.scope x) (hs : swapsWith e (some (.Name x pos')) pos.line X.env = pure false) (hf : X.fn x = true) (h : SE1 X f e) :
    SS X (fun D σ M => f σ M fun x M1 => D.nx (σ.set i (some x)) M1) (.Assign [.Name x pos'] e pos) := by
  obtain ⟨t, p, q⟩ := h
  exact ⟨_, ps_set hN hi hx p hs (.inl hf), ev_asg q⟩
/-- a comprehension whose value goes to a name on its line -/
theorem ss_asgC {i : Nat} {y : Str} {tgE iter elt : Expr} {ifs : List Expr} {scope : Scope} {own : List (Str × Nat)} {tg : Tg} {fi : WI} {fc : WT} {fe : WE} {pos pos' spos : Pos} (hy : X.N[i]? = some y) (hyl : X.env.scope.names.lookup y = some .local)
    (hsw : swapsWith (.ListComp elt [⟨tgE, iter, ifs, 0⟩] scope pos) (some (.Name y pos')) spos.line X.env = pure true) (hi : SI X tgE iter fi) (h : CompOk X tgE elt ifs scope own tg fc fe) (hs : notSet iter = true) :
    SS X (fun D σ M => compW fi tg fc fe σ M fun x M1 => D.nx (σ.set i (some x)) M1) (.Assign [.Name y pos'] (.ListComp elt [⟨tgE, iter, ifs, 0⟩] scope pos) spos) := by
  obtain ⟨ti, p, q⟩ := hi
  obtain ⟨tt, h1, h2, h3, h4⟩ := h.run
  exact ⟨_, ps_setLc h.calm h.nd hy hyl hsw p h.blk h1 h2 h3 (no_set' hs), ev_asg (ev_comp q ev_cG h4 ev_cE h.own)⟩
theorem ev_lockS {K : Kw} {i j : Nat} {tgr : TG} {tg : Tg} {tt : TT} {fc : WT} {te : TE} {fe : WE} {vs : List Nat} (qg : EvG K tgr tg) (qc : EvT K tt fc) (qe : EvE K te fe) (hvs : vs = tg.slots) :
    EvS K (tLock (tAsg (tLc (L2.iKeys (tVar i)) tgr tt te vs) (gName j))) (fun D σ M => compW (keysI i) tg fc fe σ M fun x M1 => D.nx (σ.set j (some x)) M1) := fun D Du σ H σu M rs S hf c => by
  have q := ev_compK (K := K) (i := i) qg qc qe hvs σ H σu M _ (fun v H' => D.nx (σ.set j (some v)) H') rs S hf fun v H' u M' st S' r hq => c.nx _ _ _ _ st ((rs.stp S st).set r j) S' hq
  exact q
theorem ss_asgCK {i j : Nat} {y : Str} {tgE iter elt : Expr} {ifs : List Expr} {scope : Scope} {own : List (Str × Nat)} {tg : Tg} {fc : WT} {fe : WE} {pos pos' spos : Pos} (hy : X.N[j]? = some y) (hyl : X.env.scope.names.lookup y = some .local)
    (hsw : swapsWith (.ListComp elt [⟨tgE, iter, ifs, 0⟩] scope pos) (some (.Name y pos')) spos.line X.env = pure true) (hi : PE X iter (tVar i)) (h : CompOk X tgE elt ifs scope own tg fc fe) (hs : notSet iter = true) :
    SS X (fun D σ M => compW (keysI i) tg fc fe σ M fun x M1 => D.nx (σ.set j (some x)) M1) (.Assign [.Name y pos'] (.ListComp elt [⟨tgE, iter, ifs, 0⟩] scope pos) spos) := by
  obtain ⟨tt, h1, h2, h3, h4⟩ := h.run
  exact ⟨_, ps_lock (ps_setLc h.calm h.nd hy hyl hsw (pi_keys hi) h.blk h1 h2 h3 (no_set' hs)), ev_lockS ev_cG h4 ev_cE h.own⟩
theorem swapSole {e t : Expr} {l : Nat} {env : Env} (h : isComp e = false ∨ (match t with | .Name .. => false | _ => true) = true) : swapsWithSole [t] e l env = pure false := by
  show swapsWith e (some t) l env = pure false
  rcases h with h | h
  · exact no_swap h
  · cases e <;> first | rfl | (cases t <;> first | (cases h; done) | rfl)
theorem no_stores {e t : Expr} {env : Env} (h : (match e with | .Tuple .. => false | _ => true) = true ∨ (match t with | .Tuple .. => false | .List .. => false | _ => true) = true) : swappedStores [t] e env = pure none := by
  rcases h with h | h
  · cases e <;> first | (cases h; done) | (cases t <;> rfl)
  · cases t <;> first | (cases h; done) | (cases e <;> rfl)
def notTup : Expr → Bool
  | .Tuple .. => false
  | _ => true
theorem ss_asgT {is : List Nat} {es : List Expr} {ok : Str → Bool} {k : Nat} {e : Expr} {f : WE} {tpos pos : Pos} (hc : X.calm = true) (hN : X.N.Nodup) (hok : ∀ x, ok x = true → Loc X.env.scope x ∧ (X.fn x = true ∨ X.env.scope.names.lookup x = some .local)) (hn : namesB X.N ok is es = true)
    (ht : notTup e = true) (h : SE1 X f e) : SS X (fun D σ M => f σ M fun x M1 => ∃ l σ', x = .tup l ∧ setAll is l σ = some σ' ∧ D.nx σ' M1) (.Assign [.Tuple es k tpos] e pos) := by
  obtain ⟨t, p, q⟩ := h
  obtain ⟨tg, pg, qg⟩ := sg_many (k := k) (pos := tpos) hc hN hok hn
  refine ⟨_, ps_asg p pg (swapSole (.inr rfl)) (no_stores (.inl (by cases e <;> first | (cases ht; done) | rfl))) rfl, fun D Du σ H σu M rs S hf c => ?_⟩
  refine q σ H σu M _ _ rs S hf fun v H' u M' st S' r hq => ?_
  exact qg v u σ H' σu M' (fun σ' => Du.nx σ' M') _ (rs.stp S st) r hq fun σ1 σu1 rs1 hq1 _ => c.nx _ _ _ _ st rs1 S' hq1
theorem ss_asgU {is : List Nat} {es : List Expr} {ok : Str → Bool} {k : Nat} {e : Expr} {f : WE} {tpos pos : Pos} (hc : X.calm = true) (hN : X.N.Nodup) (hok : ∀ x, ok x = true → Loc X.env.scope x ∧ (X.fn x = true ∨ X.env.scope.names.lookup x = some .local)) (hn : namesB X.N ok is es = true)
    (ht : notTup e = true) (h : SE1 X f e) : SS X (fun D σ M => f σ M fun x M1 => ∃ p l σ', x = .ref p ∧ M1 p = some (.lst l) ∧ setAll is l σ = some σ' ∧ D.nx σ' M1) (.Assign [.Tuple es k tpos] e pos) := by
  obtain ⟨t, p, q⟩ := h
  obtain ⟨tt, pt, qt⟩ := sgs_names hN hok hn
  obtain ⟨l1, l2⟩ := names_each (env := X.env) hn
  refine ⟨_, ps_asg p (pg_unl hc pt l1 l2) (swapSole (.inr rfl)) (no_stores (.inl (by cases e <;> first | (cases ht; done) | rfl))) rfl, fun D Du σ H σu M rs S hf c => ?_⟩
  refine q σ H σu M _ _ rs S hf fun v H' u M' st S' r hq => ?_
  obtain ⟨p', l, σ', rfl, hm, hs, hq⟩ := hq
  obtain ⟨vs, e, rl⟩ := S' _ _ hm
  cases r
  have hlen : l.length = is.length := setAll_len is l σu σ' hs
  refine ⟨_, vs, rfl, .inl (.inl e), by rw [rl.length, hlen], ?_⟩
  exact qt _ _ _ H' _ _ _ (rs.stp S st) rl hs fun σ1 rs1 _ => c.nx _ _ _ _ st rs1 S' hq
theorem ss_setIx {o i e : Expr} {f g h : WE} {tpos pos : Pos} (hu : X.A.units + 66 < cLine) (h1 : SE1 X f e) (h2 : SE1 X g o) (h3 : SE1 X h i) (hs : notSlice i = true) :
    SS X (fun D σ M => f σ M fun v M1 => g σ M1 fun x M2 => h σ M2 fun y M3 => setW x y v M3 (D.nx σ)) (.Assign [.Subscript o i tpos] e pos) := by
  obtain ⟨t1, p1, q1⟩ := h1
  obtain ⟨t2, p2, q2⟩ := h2
  obtain ⟨t3, p3, q3⟩ := h3
  refine ⟨_, ps_asg p1 (pg_sub p2 p3 (set_S hu) (fun v => by cases i <;> first | (cases hs; done) | rfl)) (swapSole (.inr rfl)) (no_stores (.inr rfl)) rfl, fun D Du σ H σu M rs S hf c => ?_⟩
  refine q1 σ H σu M _ _ rs S hf fun v H1 u M1 st S1 r hq => ?_
  refine q2 σ H1 σu M1 _ _ (rs.stp S st) S1 hq fun v2 H2 u2 M2 st2 S2 r2 hq2 => ?_
  have s12 := st.trans S st2
  refine q3 σ H2 σu M2 _ _ (rs.stp S s12) S2 hq2 fun v3 H3 u3 M3 st3 S3 r3 hq3 => ?_
  have s13 := s12.trans S st3
  exact ⟨u2, u3, u, M3, _, S3, r2.stp S2 st3, r3, (r.stp S1 st2).stp S2 st3, hq3, fun H' M' st' S' hq' => c.nx _ _ _ _ (s13.trans S st') (rs.stp S (s13.trans S st')) S' hq'⟩
theorem RelK.dropk {K : Kw} {H : Hp} {kvs : List (Key × V)} {ks : List (U × U)} (h : RelK K H kvs ks) (key : Key) : RelK K H (dropK kvs key) (ddrop ks (keyU key)) := by
  induction h with
  | nil => exact .nil
  | @cons p q kvs ks a _ ih =>
    unfold dropK ddrop at ih ⊢
    rw [List.filter_cons, List.filter_cons]
    by_cases e : p.1 = key
    · rw [if_neg (by simpa using e), if_neg (by rw [a.1, e]; simp)]
      exact ih
    · rw [if_pos (by simpa using e), if_pos (by
        rw [a.1, Bool.not_eq_true', decide_eq_false_iff_not]
        exact fun h => e (keyU_inj h))]
      exact .cons a ih
theorem ss_delIx {o i : Expr} {g h : WE} {tpos pos : Pos} (h2 : SE1 X g o) (h3 : SE1 X h i) :
    SS X (fun D σ M => g σ M fun x M1 => h σ M1 fun y M2 => ∃ p ks, x = .ref p ∧ M2 p = some (.dct false false ks) ∧ isKey y = true ∧ (dfind ks y).isSome = true ∧ D.nx σ (um M2 p (.dct false false (ddrop ks y)))) (.Delete [.Subscript o i tpos] pos) := by
  obtain ⟨t2, p2, q2⟩ := h2
  obtain ⟨t3, p3, q3⟩ := h3
  refine ⟨_, ps_ddel p2 p3, fun D Du σ H σu M rs S hf c => ?_⟩
  refine q2 σ H σu M _ _ rs S hf fun v2 H2 u2 M2 st2 S2 r2 hq2 => ?_
  refine q3 σ H2 σu M2 _ _ (rs.stp S st2) S2 hq2 fun v3 H3 u3 M3 st3 S3 r3 hq3 => ?_
  obtain ⟨p, ks, rfl, hm, hk, hd, hq3⟩ := hq3
  have s13 := st2.trans S st3
  obtain ⟨kvs, e, rk⟩ := S3 _ _ hm
  have e : H3 p = some (.dK kvs) := e
  obtain ⟨key, rfl, rfl⟩ := isKey_of hk r3
  cases r2
  have s4 : Stp H3 M3 (upd H3 p (.dK (dropK kvs key))) (um M3 p (.dct false false (ddrop ks (keyU key)))) := Stp.mut hm
  refine ⟨p, kvs, key, rfl, e, rfl, ?_, ?_⟩
  · rcases rk.find key with ⟨g1, g2⟩ | ⟨w, u, g1, g2, _⟩
    · rw [g2] at hd; cases hd
    · rw [g1]; rfl
  · refine c.nx _ _ _ _ (s13.trans S s4) (rs.stp S (s13.trans S s4)) (S3.mut (m := .dct false false (ddrop ks (keyU key))) hm rfl ⟨_, upd_same, RelK.dropk (Paired.mapR rk fun p q x => ⟨x.1, x.2.stp S3 s4⟩) key⟩) hq3
theorem ss_setF {cn f : Str} {o e : Expr} {g h : WE} {tpos pos : Pos} (cl : Cls (kwX X) (cad (kwX X) cn)) (na : NoAttr (kwX X) (cad (kwX X) cn) f) (h1 : SE1 X g e) (h2 : SE1 X h o) :
    SS X (fun D σ M => g σ M fun v M1 => h σ M1 fun x M2 => ∃ p fs, x = .ref p ∧ M2 p = some (.obj cn fs) ∧ fs.length < 1000 ∧ D.nx σ (um M2 p (.obj cn (fput f v fs)))) (.Assign [.Attribute o f tpos] e pos) := by
  obtain ⟨t1, p1, q1⟩ := h1
  obtain ⟨t2, p2, q2⟩ := h2
  refine ⟨_, ps_fld p2 p1 (show swapsWithSole [Expr.Attribute o f tpos] e pos.line X.env = pure false from swapSole (.inr rfl)), fun D Du σ H σu M rs S hf c => ?_⟩
  refine q1 σ H σu M _ _ rs S hf fun v H1 u M1 st S1 r hq => ?_
  refine q2 σ H1 σu M1 _ _ (rs.stp S st) S1 hq fun v2 H2 u2 M2 st2 S2 r2 hq2 => ?_
  obtain ⟨p, fs, rfl, hm, hl, hq2⟩ := hq2
  obtain ⟨dx, vs, e1, rf, _, nas⟩ := S2 _ _ hm
  cases r2
  have s12 := st.trans S st2
  have s3 : Stp H2 M2 (upd H2 p (.ins (cad (kwX X) cn) dx (putF f v vs))) (um M2 p (.obj cn (fput f u fs))) := Stp.mut hm
  refine ⟨p, cad (kwX X) cn, dx, vs, rfl, e1, cl, na, by rw [rf.len]; exact hl, ?_⟩
  refine c.nx _ _ _ _ (s12.trans S s3) (rs.stp S (s12.trans S s3)) (S2.mut (m := .obj cn (fput f u fs)) hm rfl ⟨dx, _, upd_same, ?_, cl, mem_putF (P := fun z => NoAttr (kwX X) (cad (kwX X) cn) z) na nas⟩) hq2
  exact RelF.put ((r.stp S1 st2).stp S2 s3) (Paired.mapR rf fun p q x => ⟨x.1, x.2.stp S2 s3⟩)
def iopOf : Bop → Option Operator
  | .add => some .Add
  | .sub => some .Sub
  | _ => none
theorem ip_S {op : Bop} {o : Operator} (h : iopOf op = some o) : PIp X o (fun x y H Q => ∃ a b, x = .int a ∧ y = .int b ∧ Q (.int (if op = .add then a + b else a - b)) H) := by
  cases op <;> first | (cases h; done) | skip
  · cases h
    exact ip_add
  · cases h
    exact ip_sub
theorem bin_int {op : Bop} {o : Operator} (h : iopOf op = some o) {a b : Int} {M : Hm} {Q : QU} (q : binW op (.int a) (.int b) M Q) : Q (.int (if op = .add then a + b else a - b)) M := by
  cases op <;> first | (cases h; done) | exact q
theorem ss_augV {i : Nat} {x : Str} {e : Expr} {f : WE} {op : Bop} {o : Operator} {pos pos' : Pos} (ho : iopOf op = some o) (hN : X.N.Nodup) (hi : X.N[i]? = some x) (hx : Loc X.env.scope x) (hf : X.fn x = true) (h : SE1 X f e) :
    SS X (fun D σ M => ∃ x, σ[i]? = some (some x) ∧ f σ M fun y M1 => ∃ a b, x = .int a ∧ y = .int b ∧ binW op x y M1 fun z M2 => D.nx (σ.set i (some z)) M2) (.AugAssign (.Name x pos') o e pos) := by
  obtain ⟨t, p, q⟩ := h
  refine ⟨_, ps_aug hN hi hx p (ip_S ho) (.inl hf), fun D Du σ H σu M rs S hf c => ?_⟩
  obtain ⟨u, hu, hf⟩ := hf
  obtain ⟨v, hv, rv⟩ := rs.2 i u hu
  refine ⟨v, hv, q σ H σu M _ _ rs S hf fun v2 H' u2 M' st S' r hq => ?_⟩
  obtain ⟨a, b, rfl, rfl, hq⟩ := hq
  have rv := rv.stp S st
  cases rv
  cases r
  exact ⟨a, b, rfl, rfl, c.nx _ _ _ _ st ((rs.stp S st).set (.int _) i) S' (bin_int ho hq)⟩
/-- o[i] by values -/
theorem get_S (hu : X.A.units + 1 < cLine) : PGet X (R2s (kwX X) getW) := by
  intro pins s σ H o i ov iv Q I ro ri h
  obtain ⟨a, b, M, Qu, S, ra, rb, hf, c⟩ := h
  unfold getW at hf
  have hn := line63
  split at hf
  · rcases hf with ⟨us, j, w, h1, rfl, e, q⟩ | ⟨z, t, ks, w, h1, h2, e, q⟩
    · cases rb
      cases ra
      obtain ⟨vs, e2, r⟩ := S _ _ h1
      obtain ⟨v1, e1, r1⟩ := ix_pure r e
      obtain rfl : ov = Value.ref _ := ro
      obtain ⟨t', rfl⟩ := ri
      obtain ⟨its, r', pl, hz⟩ := I.list (.inl (.inl e2))
      obtain ⟨k, h1, h2, h3, h4, h5⟩ := atI_get e1
      obtain ⟨w', ew, rw'⟩ := r'.get h2
      have hl := r'.length
      have fin : EP X pins σ Q w' s := ⟨v1, H, I, rw', c.at_ S r1 q⟩
      by_cases h0 : 0 ≤ j
      · have hj : j.toNat = k := by
          rw [PySem.seqIndex_of h0 h5] at h1
          exact Option.some.inj h1
        exact PySem.wpAny_getItem_list (Q := EP X pins σ Q) pl.isList h0 (by omega) (by rw [hj]; simpa using ew) fin
      · have hj : (j + (its.toArray.size : Int)).toNat = k := by
          rw [PySem.seqIndex_neg (by omega) h4] at h1
          rw [List.size_toArray, ← hl]
          exact Option.some.inj h1
        exact PySem.wpAny_getItem_list_neg (Q := EP X pins σ Q) pl.isList (by omega) (by rw [List.size_toArray] <;> omega) (by omega) (by rw [hj]; simpa using ew) fin
    · obtain ⟨o', g, q2⟩ := dget_of S h1 h2 rb
      cases ra
      obtain rfl : ov = Value.ref _ := ro
      rcases q2 with ⟨_, e2⟩ | ⟨v1, u1, e1, e2, r1⟩
      · rw [e] at e2; cases e2
      · rw [e] at e2
        cases e2
        subst e1
        exact d_getItem hu I g ri fun w' s' I' rw' => ⟨_, H, I', rw', c.at_ S r1 q⟩
  · exact hf.elim
theorem ss_augIx {o i e : Expr} {f g h : WE} {op : Bop} {oo : Operator} {tpos pos : Pos} (ho : iopOf op = some oo) (hu : X.A.units + 66 < cLine) (h1 : SE1 X f o) (h2 : SE1 X g i) (h3 : SE1 X h e) (hs : notSlice i = true) :
    SS X (fun D σ M => f σ M fun x M1 => g σ M1 fun y M2 => getW x y M2 fun v M3 => h σ M3 fun z M4 => ∃ a b, v = .int a ∧ z = .int b ∧ binW op v z M4 fun r M5 => setW x y r M5 (D.nx σ)) (.AugAssign (.Subscript o i tpos) oo e pos) := by
  obtain ⟨t1, p1, q1⟩ := h1
  obtain ⟨t2, p2, q2⟩ := h2
  obtain ⟨t3, p3, q3⟩ := h3
  refine ⟨_, ps_augS p1 p2 (get_S (by omega)) p3 (ip_S ho) (set_S hu) (fun ov iv new => by cases i <;> first | (cases hs; done) | rfl), fun D Du σ H σu M rs S hf c => ?_⟩
  refine q1 σ H σu M _ _ rs S hf fun v H1 u M1 st S1 r hq => ?_
  refine q2 σ H1 σu M1 _ _ (rs.stp S st) S1 hq fun v2 H2 u2 M2 st2 S2 r2 hq2 => ?_
  have s12 := st.trans S st2
  refine ⟨u, u2, M2, _, S2, r.stp S1 st2, r2, hq2, fun v3 H3 u3 M3 st3 S3 r3 hq3 => ?_⟩
  have s13 := s12.trans S st3
  refine q3 σ H3 σu M3 _ _ (rs.stp S s13) S3 hq3 fun v4 H4 u4 M4 st4 S4 r4 hq4 => ?_
  have s14 := s13.trans S st4
  obtain ⟨a, b, rfl, rfl, hq4⟩ := hq4
  cases r3
  cases r4
  refine ⟨a, b, rfl, rfl, ?_⟩
  have rr := ((r.stp S1 st2).stp S2 st3).stp S3 st4
  have rr2 := (r2.stp S2 st3).stp S3 st4
  exact ⟨u, u2, _, M4, _, S4, rr, rr2, .int _, bin_int ho hq4, fun H' M' st' S' hq' => c.nx _ _ _ _ (s14.trans S st') (rs.stp S (s14.trans S st')) S' hq'⟩
theorem ss_if {c0 : Expr} {a b : List Stmt} {fc : WT} {f g : WSt} {pos : Pos} (hc : ST X fc c0) (h1 : SSs X f a) (h2 : SSs X g b) : SS X (fun D σ M => fc σ M fun k M1 => if k = true then f D σ M1 else g D σ M1) (.If c0 a b pos) := by
  obtain ⟨t0, p0, q0⟩ := hc
  obtain ⟨t1, p1, q1⟩ := h1
  obtain ⟨t2, p2, q2⟩ := h2
  refine ⟨_, ps_if p0 p1 p2, fun D Du σ H σu M rs S hf c => ?_⟩
  refine q0 σ H σu M _ _ rs S hf fun k H1 M1 st S1 hq => ?_
  cases k with
  | true => exact q1 D Du σ H1 σu M1 (rs.stp S st) S1 hq (c.tr S st)
  | false => exact q2 D Du σ H1 σu M1 (rs.stp S st) S1 hq (c.tr S st)
theorem ss_whl {c0 : Expr} {b : List Stmt} {fc : WT} {f : WSt} {pos : Pos} (hx : PassesOwn (PySem.model X.prog X.w) X.A X.env X.xe) (hc : ST X fc c0) (h1 : SSs X f b) :
    SS X (fun D σ M => ∃ W : Nat → SU → Hm → Prop, (∃ m, W m σ M) ∧ ∀ m σ M, W m σ M → fc σ M fun k M1 =>
      if k = true then f ⟨fun σ' M' => ∃ m', m' < m ∧ W m' σ' M', D.rt, D.nx, fun σ' M' => ∃ m', m' < m ∧ W m' σ' M'⟩ σ M1 else D.nx σ M1) (.While c0 b [] pos) := by
  obtain ⟨t0, p0, q0⟩ := hc
  obtain ⟨t1, p1, q1⟩ := h1
  refine ⟨_, ps_while hx p0 p1, fun D Du σ H σu M rs S hf c => ?_⟩
  obtain ⟨W, ⟨m0, w0⟩, turn⟩ := hf
  refine ⟨fun m σ2 H2 => ∃ σu2 M2, Stp H M H2 M2 ∧ RelS (kwX X) H2 σ2 σu2 ∧ Sim (kwX X) H2 M2 ∧ W m σu2 M2, ⟨m0, σu, M, Stp.refl H M, rs, S, w0⟩, ?_⟩
  rintro m σ2 H2 ⟨σu2, M2, st2, rs2, S2, w2⟩
  refine q0 σ2 H2 σu2 M2 _ _ rs2 S2 (turn m σu2 M2 w2) fun k H3 M3 st3 S3 hq => ?_
  have s3 := st2.trans S st3
  have rs3 := rs2.stp S2 st3
  cases k with
  | false => exact c.nx _ _ _ _ s3 rs3 S3 hq
  | true =>
    refine ⟨fun σ' H' => ∃ m', m' < m ∧ ∃ σu2 M2, Stp H M H' M2 ∧ RelS (kwX X) H' σ' σu2 ∧ Sim (kwX X) H' M2 ∧ W m' σu2 M2, fun _ _ z => z, ?_⟩
    have back : ContS (kwX X) H3 M3 (fun σ' M' => ∃ m', m' < m ∧ W m' σ' M') (fun σ' H' => ∃ m', m' < m ∧ ∃ σu2 M2, Stp H M H' M2 ∧ RelS (kwX X) H' σ' σu2 ∧ Sim (kwX X) H' M2 ∧ W m' σu2 M2) := fun σ' H' σu' M' st' rs' S' ⟨m', hm, w'⟩ => ⟨m', hm, σu', M', s3.trans S st', rs', S', w'⟩
    exact q1 _ _ σ2 H3 σu2 M3 rs3 S3 hq ⟨back, c.rt.tr S s3, c.nx.tr S s3, back⟩
/-- the turns of a for -/
abbrev turnW (tg : Tg) (f : WSt) (D : EndsU) (ex : (Hm → Prop) → Hm → Prop) : U → (SU → Hm → Prop) → SU → Hm → Prop := fun x nx σ M => tgW tg x σ fun σ2 => f ⟨nx, fun u M => ex (D.rt u) M, fun σ M => ex (D.nx σ) M, nx⟩ σ2 M
def forW (fi : WI) (tg : Tg) (f : WSt) : WSt := fun D σ M => fi σ M fun items g ex M1 => forL (turnW tg f D ex) g (fun σ M => ex (D.nx σ) M) items σ M1
theorem for_core {K : Kw} {tgr : TG} {tg : Tg} {tb : TS} {f : WSt} (qg : EvG K tgr tg) (qb : EvS K tb f) {σ : L2.St} {σu : SU} {H1 : Hp} {M1 : Hm} {J : It} {items : List U} {g : Hm → Prop} {ex : (Hm → Prop) → Hm → Prop} {D : Ends} {Du : EndsU}
    (rs : RelS K H1 σ σu) (S1 : Sim K H1 M1) (ok : ItOk K H1 M1 J items g) (hg0 : g M1) (hc : forL (turnW tg f Du ex) g (fun σ M => ex (Du.nx σ) M) items σu M1)
    (hnx : ContS K H1 M1 (fun σ M => ex (Du.nx σ) M) D.nx) (hend : ∀ σ' H' σu' M', Stp H1 M1 H' M' → RelS K H' σ' σu' → Sim K H' M' → g M' → ex (Du.nx σu') M' → D.nx σ' H') (hrt : Cont K H1 M1 (fun u M => ex (Du.rt u) M) D.rt) :
    ∃ W : Nat → Nat → L2.St → Hp → Prop, (∃ m, W 0 m σ H1) ∧ ∀ i m σ H, W i m σ H →
      (J.stop i H ∧ D.nx σ H) ∨ (J.go i H ∧ ∃ N : L2.St → Hp → Prop, (∀ σ' H', N σ' H' → ∃ m', m' < m ∧ W (i + 1) m' σ' H') ∧ ∀ x H', J.yld i H x H' → tgr x σ H' fun σ2 H2 => tb { D with nx := N, ct := N, bk := D.nx } σ2 H2) := by
  let W : Nat → Nat → L2.St → Hp → Prop := fun i m σ2 H2 => m = items.length - i ∧ i ≤ items.length ∧ ∃ (σu2 : SU) (M2 : Hm), Stp H1 M1 H2 M2 ∧ RelS K H2 σ2 σu2 ∧ Sim K H2 M2 ∧ g M2 ∧ forL (turnW tg f Du ex) g (fun σ M => ex (Du.nx σ) M) (items.drop i) σu2 M2
  refine ⟨W, ⟨items.length, by simp, Nat.zero_le _, σu, M1, Stp.refl H1 M1, rs, S1, hg0, hc⟩, ?_⟩
  rintro i m σ2 H2 ⟨rfl, hi, σu2, M2, st2, rs2, S2, hg, hc⟩
  obtain ⟨go, stop⟩ := ok i H2 M2 st2 S2 hg
  by_cases hlt : i < items.length
  · right
    have hu : items[i]? = some items[i] := List.getElem?_eq_getElem hlt
    obtain ⟨jgo, jy⟩ := go _ hu
    refine ⟨jgo, fun σ' H' => ∃ m', m' < items.length - i ∧ W (i + 1) m' σ' H', fun _ _ z => z, fun x H3 hy => ?_⟩
    obtain ⟨st3, S3, rx⟩ := jy x H3 hy
    have hdrop : items.drop i = items[i] :: items.drop (i + 1) := List.drop_eq_getElem_cons hlt
    rw [hdrop] at hc
    have s3 := st2.trans S1 st3
    have hc : tgW tg items[i] σu2 fun σ4 => f ⟨fun σ' M' => g M' ∧ forL (turnW tg f Du ex) g (fun σ M => ex (Du.nx σ) M) (items.drop (i + 1)) σ' M', fun u M => ex (Du.rt u) M, fun σ M => ex (Du.nx σ) M, fun σ' M' => g M' ∧ forL (turnW tg f Du ex) g (fun σ M => ex (Du.nx σ) M) (items.drop (i + 1)) σ' M'⟩ σ4 M2 := hc
    refine qg x items[i] σ2 H3 σu2 M2 _ _ (rs2.stp S2 st3) rx hc fun σ4 σu4 rs4 hb _ => ?_
    have back : ContS K H3 M2 (fun σ' M' => g M' ∧ forL (turnW tg f Du ex) g (fun σ M => ex (Du.nx σ) M) (items.drop (i + 1)) σ' M') (fun σ' H' => ∃ m', m' < items.length - i ∧ W (i + 1) m' σ' H') := fun σ' H' σu' M' st' rs' S' ⟨g', h'⟩ =>
      ⟨items.length - (i + 1), by omega, rfl, by omega, σu', M', s3.trans S1 st', rs', S', g', h'⟩
    exact qb _ _ σ4 H3 σu4 M2 rs4 S3 hb ⟨back, hrt.tr S1 s3, hnx.tr S1 s3, back⟩
  · left
    have e : i = items.length := by omega
    subst e
    have z := hc
    rw [List.drop_length] at z
    exact ⟨stop rfl, hend _ _ _ _ st2 rs2 S2 hg z⟩
theorem ss_for {tgE iter : Expr} {body : List Stmt} {tg : Tg} {fi : WI} {f : WSt} {pos : Pos} (hx : PassesOwn (PySem.model X.prog X.w) X.A X.env X.xe) (hc : X.calm = true) (hi : SI X tgE iter fi) (hg : SG X tgE tg) (hb : SSs X f body) (hs : notSet iter = true) : SS X (forW fi tg f) (.For tgE iter body [] pos) := by
  obtain ⟨ti, p, q⟩ := hi
  obtain ⟨tgr, pg, qg⟩ := hg
  obtain ⟨tb, pb, qb⟩ := hb
  refine ⟨_, ps_for hx hc p pg pb (no_set' hs), fun D Du σ H σu M rs S hf c => ?_⟩
  refine q σ H σu M _ _ rs S hf fun J H1 items g ex M1 st S1 ok hg0 hex hq => ?_
  subst hex
  exact for_core qg qb (rs.stp S st) S1 ok hg0 hq (c.nx.tr S st) (fun σ' H' σu' M' st' rs' S' _ hn => c.nx _ _ _ _ (st.trans S st') rs' S' hn) (c.rt.tr S st)
theorem ss_forK {tgE iter : Expr} {body : List Stmt} {i : Nat} {tg : Tg} {f : WSt} {pos : Pos} (hx : PassesOwn (PySem.model X.prog X.w) X.A X.env X.xe) (hc : X.calm = true) (hi : PE X iter (tVar i)) (hg : SG X tgE tg) (hb : SSs X f body) (hs : notSet iter = true) : SS X (forW (keysI i) tg f) (.For tgE iter body [] pos) := by
  obtain ⟨tgr, pg, qg⟩ := hg
  obtain ⟨tb, pb, qb⟩ := hb
  refine ⟨_, ps_lock (ps_for hx hc (pi_keys hi) pg pb (no_set' hs)), fun D Du σ H σu M rs S hf c => ?_⟩
  obtain ⟨j, d, t, ks, ej, hs, hm, hq⟩ := hf
  cases ej
  obtain ⟨v, hv, rv⟩ := rs.2 i _ hs
  obtain rfl : v = .ref d := by cases rv; rfl
  obtain ⟨u, hd, mu, lk⟩ := lock_stp S hm
  refine ⟨d, u, hd, mu, fun od => ?_⟩
  obtain ⟨st, S1, hu⟩ := lk od
  have hu1 := hu_stp S st hu
  refine keys_run hv S1 upd_same um_same hu1 fun J ok => ?_
  have un : ∀ {H2 : Hp} {M2 : Hm}, Stp (upd H d (.frz od u)) (um M d (.dct true t ks)) H2 M2 → Sim (kwX X) H2 M2 → M2 d = some (.dct true t ks) → _ := fun {H2 M2} st2 S2 hm2 => unlock_stp S hm upd_same um_same st S1 st2 S2 hm2 (hu_stp S1 st2 hu1)
  have nxK : ContS (kwX X) (upd H d (.frz od u)) (um M d (.dct true t ks)) (fun σ M => M d = some (.dct true t ks) ∧ Du.nx σ (um M d (.dct false t ks))) (fun σ' H' => H' d = some (.frz od u) ∧ D.nx σ' (upd H' d u)) := fun σ' H' σu' M' st' rs' S' ⟨hm', hn⟩ => by
    obtain ⟨e2, st3, S3, f1, f2⟩ := un st' S' hm'
    exact ⟨e2, c.nx _ _ _ _ st3 ⟨rs'.1, fun i u e => let ⟨v, a, b⟩ := rs'.2 i u e; ⟨v, a, f1 _ _ b⟩⟩ S3 hn⟩
  refine for_core (D := ⟨fun σ' H' => H' d = some (.frz od u) ∧ D.nx σ' (upd H' d u), fun v H' => H' d = some (.frz od u) ∧ D.rt v (upd H' d u), fun σ' H' => H' d = some (.frz od u) ∧ D.bk σ' (upd H' d u), fun σ' H' => H' d = some (.frz od u) ∧ D.ct σ' (upd H' d u)⟩) (Du := Du)
    qg qb (rs.stp S st) S1 ok um_same hq nxK (fun σ' H' σu' M' st' rs' S' _ hn => nxK _ _ _ _ st' rs' S' hn) fun v H' x M' st' S' r' ⟨hm', hr⟩ => ?_
  obtain ⟨e2, st3, S3, f1, f2⟩ := un st' S' hm'
  exact ⟨e2, c.rt _ _ _ _ st3 S3 (f1 _ _ r') hr⟩
end
end Pl

set_option maxHeartbeats 4000000
/-! a dict made of what is walked, its keys tuples within one another -/
namespace Pl
open PySem PySem.Spec PyProof.Rows L2
section
variable {X : Cy} {pins : List (Addr × Obj)} {σ : L2.St} {H : Hp} {s : Shared} {M : Hm} {A : Around} {E : Value → Shared → Prop}
theorem n_dictSet (hu : A.units + 66 < cLine) (I : L2.Inv X pins σ H s) (S : Sim (kwX X) H M) {p : Addr} {ks : List (U × U)} (hm : M p = some (.dcn ks)) (hl : ks.length < LIM) {k w : U} {v y : V} {u x : Value} (hk : isKeyN k = true) (r : Rel (kwX X) H v k) (rv : RelV v u) (ry : RelV y x) (rw' : Rel (kwX X) H y w) {Q : Unit → Shared → Prop}
    (q : ∀ H' s', L2.Inv X pins σ H' s' → Stp H M H' (um M p (.dcn (dput ks k w))) → Sim (kwX X) H' (um M p (.dcn (dput ks k w))) → Q () s') : wpAny (model X.prog X.w) A (dictSet p u x) Q E s := by
  obtain ⟨xs, e, rn, dd, hs, hz⟩ := dcn_of I S hm
  obtain ⟨a, rfl⟩ := keyN_ref hk r
  obtain rfl : u = Value.ref a := rv
  refine wpAny_dictSet_heap (knd := nestedKind X.prog X.w) (show A.units + 8 < cLine by omega) (keyN_is I.hok I.kIn hk r) dd (fun h' dd' sb => ?_) hz
  obtain ⟨o, es, ep, h1, h2, h3, h4, h5, h6⟩ := dd'
  have hd : dcnP X.w p (storedH xs (nk k) a x) h' := ⟨o, es, ep, h1, h2, h3, h4, h6⟩
  have I2 : L2.Inv X pins σ (upd H p (.ext (dcnP X.w p (storedH xs (nk k) a x)))) { heap := h', gens := s.gens, drawn := s.drawn, toks := s.toks + (nestedKind X.prog X.w).draws (nk k), os := s.os } :=
    d_write (t' := s.toks + (nestedKind X.prog X.w).draws (nk k)) I (by rw [e]; trivial) sb ⟨o, h1⟩ (dcn_ok hd)
  have st : Stp H M (upd H p (.ext (dcnP X.w p (storedH xs (nk k) a x)))) (um M p (.dcn (dput ks k w))) := Stp.mut hm
  have rn2 : RelN (kwX X) (upd H p (.ext (dcnP X.w p (storedH xs (nk k) a x)))) (storedH xs (nk k) a x) (dput ks k w) := RelN.put (Paired.mapR rn fun p q x => ⟨⟨x.1.1, x.1.2.1, x.1.2.2.stp S st⟩, x.2.elim fun v y => ⟨v, y.1, y.2.stp S st⟩⟩) hk (r.stp S st) ry (rw'.stp S st)
  have hz2 : (storedH xs (nk k) a x).length ≤ sizeLine := by
    have h1 : (dput ks k w).length ≤ ks.length + 1 := by
      unfold dput
      split
      · rw [List.length_map]; omega
      · rw [List.length_append]; exact Nat.le_refl _
    rw [rn2.len]
    have := lim_line
    omega
  exact q _ _ I2 st (S.mut (m := .dcn (dput ks k w)) hm rfl ⟨_, upd_same, rn2, hs, hz2⟩)
end
def DSetN (K : Kw) (D : Addr) (y z : V) (H : Hp) (Nx : Hp → Prop) : Prop := ∃ M ks k w, Sim K H M ∧ M D = some (.dcn ks) ∧ ks.length < LIM ∧ isKeyN k = true ∧ Rel K H y k ∧ Rel K H z w ∧
  ∀ H', Stp H M H' (um M D (.dcn (dput ks k w))) → Sim K H' (um M D (.dcn (dput ks k w))) → Nx H'
def tDcN (K : Kw) (wi : TI) (g : TG) (tt : TT) (tk tv : TE) (vs : List Nat) : TE := fun σ H Q => wi σ H fun J H1 => ∀ D, H1 D = none → (D == sysModules) = false → ∃ W : Nat → Nat → Hp → Prop, (∃ m, W 0 m (upd H1 D (.ext (dcnP K.2.1 D [])))) ∧ ∀ i m H, W i m H →
  (J.stop i H ∧ Q (.ref D) H) ∨ (J.go i H ∧ ∃ Nx : Hp → Prop, (∀ H', Nx H' → ∃ m', m' < m ∧ W (i + 1) m' H') ∧ ∀ x H', J.yld i H x H' → g x (L2.wipe σ vs) H' fun σ2 H2 => L2.wipe σ2 vs = L2.wipe σ vs ∧ tt σ2 H2 fun b H3 =>
    if b = true then tk σ2 H3 fun y H4 => tv σ2 H4 fun z H5 => DSetN K D y z H5 Nx else Nx H3)
section
variable {X : Cy}
theorem dcn_core {pins : List (Addr × Obj)} {s : Shared} {σ : L2.St} {H : Hp} {Q : VK} {kx vx tg iter : Expr} {ifs : List Expr} {scope : Scope} {own : List (Str × Nat)} {pos pos' : Pos} {wi : TI} {g : TG} {tt : TT} {tk tv : TE} {use : Option (Value → Sem Unit)} {Qf : Value → Shared → Prop}
    (hu : X.A.units + 66 < cLine) (hc : X.calm = true) (hN : X.N.Nodup) (I : L2.Inv X pins σ H s) (hi : PI X tg iter wi) (ok : BlkOk X.N X.env.scope scope own)
    (hg : ∀ (s : Shared) (H : Hp) (C : Addr) (cl : List (Str × Addr)) (fp : List Addr), PG (X.blk s H scope (compEnvC scope cl C X.env) fp) tg g) (ht : ∀ (s : Shared) (H : Hp) (C : Addr) (cl : List (Str × Addr)) (fp : List Addr), PTs (X.blk s H scope (compEnvC scope cl C X.env) fp) ifs tt)
    (hk : ∀ (s : Shared) (H : Hp) (C : Addr) (cl : List (Str × Addr)) (fp : List Addr), PE (X.blk s H scope (compEnvC scope cl C X.env) fp) kx tk)
    (he : ∀ (s : Shared) (H : Hp) (C : Addr) (cl : List (Str × Addr)) (fp : List Addr), PE (X.blk s H scope (compEnvC scope cl C X.env) fp) vx tv) (hs : ∀ x, foldedSetIterable iter X.env x = pure x)
    (h : tDcN (kwX X) wi g tt tk tv (own.map (·.2)) σ H Q)
    (hRR : ∀ D C s' m H', L2.Inv X pins σ H' s' → Q (.ref D) H' → s'.heap.Ns C m → FpOk X pins H' C → compPost (model X.prog X.w) X.A X.xe use Qf (.ref D) C (.ok .next) s') :
    wpAny (model X.prog X.w) X.A (comprehension (.DictComp kx vx [⟨tg, iter, ifs, 0⟩] scope pos) scope X.env pos' newDict false (eval iter X.env) use) Qf X.xe s := by
  have hfree : ∀ y ∈ scope.names, y.2 = .free → ∃ c, X.env.cells.lookup y.1 = some c := fun y hy e => by
    rcases ok.free y hy e with k | k
    · exact I.ok.has _ (.inl k)
    · exact I.ok.has _ (.inr k)
  refine wpAny_comprehension_free (use := use) rfl hs (closure_ok hfree) ok.kind (fun y hy e => by rw [ok.uniq y hy, e])
    (thn (hi.run pins s σ H _ I h) fun xv s1 hx => thn hx fun itv s2 h2 => ?_)
  obtain ⟨it, fp, tn, J, H2, e, I2, T, st2, f2, q⟩ := h2
  subst e
  refine wpAny_newObj_type (newEnv_comp ?_)
  generalize hD : s2.heap.objs.size = D
  have hDn : H2 D = none := I2.hok.fresh (Nat.le_of_eq hD)
  have hDs : (D == sysModules) = false := by
    obtain ⟨_, z, _⟩ := dt_empty (P := X.prog) (w := X.w) (H := H2) s2.heap I2.big
    rw [← hD]
    exact z
  obtain ⟨W, ⟨m0, w0⟩, turn⟩ := q D hDn hDs
  generalize hs3 : ({ s2 with heap := s2.heap.push { cls := .type "dict", data := .dict #[] } } : Shared) = s3
  have I3 : L2.Inv X pins σ (upd H2 D (.ext (dcnP X.w D []))) s3 := by
    rw [← hs3, ← hD]
    exact I2.laid (t' := s2.toks) (fun b o e => Heap.get?_push_of_some _ e) (Nat.le_refl _) (dcn_ok ⟨_, #[], _, Heap.get?_push_size _ rfl, ⟨rfl, rfl, rfl⟩, rfl, rfl, List.nodup_nil⟩)
  have h3 : s3.heap = s2.heap.push { cls := .type "dict", data := .dict #[] } := by rw [← hs3]
  have sz : ∀ b ∈ fp, b < s2.heap.objs.size := fun b hb => by
    obtain ⟨o, e, _⟩ := T.obj _ _ st2 b hb
    exact Heap.lt_size e
  have f3 : ∀ b ∈ fp, FpOk X pins (upd H2 D (.ext (dcnP X.w D []))) b ∧ b < s3.heap.objs.size := fun b hb => by
    have hlt := sz b hb
    refine ⟨⟨?_, (f2 b hb).2⟩, by rw [h3, Heap.size_push]; exact Nat.lt_succ_of_lt hlt⟩
    rw [upd_ne (by rw [← hD]; exact Nat.ne_of_lt hlt)]
    exact (f2 b hb).1
  have st3 : tn 0 s3.heap := T.keep _ _ _ st2 fun b _ o e => by rw [h3]; exact Heap.get?_push_of_some _ e
  have I4 := block_start I3 ok hN f3
  generalize hH3 : upd H2 D (.ext (dcnP X.w D [])) = H3 at *
  have pg := hg s3 H3 s3.heap.objs.size (cellsFrom (s3.heap.objs.size + 1) scope.names (cloFrom X.env.cells scope.names [])) fp
  have pt := ht s3 H3 s3.heap.objs.size (cellsFrom (s3.heap.objs.size + 1) scope.names (cloFrom X.env.cells scope.names [])) fp
  have pk := hk s3 H3 s3.heap.objs.size (cellsFrom (s3.heap.objs.size + 1) scope.names (cloFrom X.env.cells scope.names [])) fp
  have pe := he s3 H3 s3.heap.objs.size (cellsFrom (s3.heap.objs.size + 1) scope.names (cloFrom X.env.cells scope.names [])) fp
  show codeAny _ _ (.compStart (.DictComp kx vx [⟨tg, iter, ifs, 0⟩] scope pos) 0 (.ref it) (.ref D) (compEnvC scope (cellsFrom (s3.heap.objs.size + 1) scope.names (cloFrom X.env.cells scope.names [])) s3.heap.objs.size X.env)) (compPost (model X.prog X.w) X.A X.xe use Qf (.ref D) s3.heap.objs.size) { s3 with heap := pushCells (s3.heap.push { cls := .type "dict", data := .dict #[] }) scope.names }
  have nfp : ∀ b ∈ fp, H3 b = none := fun b hb => (f3 b hb).1.1
  generalize hce : compEnvC scope (cellsFrom (s3.heap.objs.size + 1) scope.names (cloFrom X.env.cells scope.names [])) s3.heap.objs.size X.env = ce at I4 pg pt pk pe ⊢
  have cL : ce.locals = s3.heap.objs.size := by subst hce; rfl
  generalize hs4 : ({ s3 with heap := pushCells (s3.heap.push { cls := .type "dict", data := .dict #[] }) scope.names } : Shared) = s4 at I4 ⊢
  have st4 : tn 0 s4.heap := T.keep _ _ _ st3 fun b _ o e => by rw [← hs4]; exact pushCells_keeps _ _ _ _ (Heap.get?_push_of_some _ e)
  have stat : ∀ {σ' : L2.St} {H' : Hp} {s' : Shared}, L2.Inv (X.blk s3 H3 scope ce fp) [] σ' H' s' → (∀ b ∈ fp, H' b = none) → ∀ b ∈ fp, FpOk (X.blk s3 H3 scope ce fp) [] H' b := fun {σ' H' s'} I' hn b hb =>
    ⟨hn b hb, (I'.ok.exf b hb).1, I'.ok.exfs b hb, .inl hb, fun x c e => (I'.ok.exf b hb).2 x c e, fun p hp => absurd (show p ∈ ([] : List (Addr × Obj)) ++ [] from hp) (by simp)⟩
  have loop : codeAny (model X.prog X.w) X.A (.compLoop (.DictComp kx vx [⟨tg, iter, ifs, 0⟩] scope pos) 0 (.ref it) (.ref D) ce) (compPost (model X.prog X.w) X.A X.xe use Qf (.ref D) s3.heap.objs.size) s4 := by
    refine compLoop_anyD (fun n s' => ∃ i H', L2.Inv (X.blk s3 H3 scope ce fp) [] (L2.wipe σ (own.map (·.2))) H' s' ∧ tn i s'.heap ∧ (∀ b ∈ fp, H' b = none) ∧ W i n H') ?_ m0 ⟨0, H3, I4, st4, nfp, w0⟩
    rintro n s5 ⟨i, H5, I5, st5, n5, w5⟩
    rcases turn i n H5 w5 with ⟨stop, qq⟩ | ⟨go, Nx, hNx, step⟩
    · have td := T.done (X.blk s3 H3 scope ce fp) rfl rfl rfl hc i [] s5 _ H5 (fun _ _ => False) I5 (stat I5 n5) st5 stop
      refine thnF td fun r s6 ⟨hr, I6⟩ => ?_
      subst hr
      have I7 : L2.Inv X pins σ H5 s6 := I3.call' (ch := fp) I6.os I6.base I6.hok I6.bare fun b hb => ⟨(f3 b hb).1.2.2.2.1, (f3 b hb).1.2.1, (f3 b hb).1.2.2.2.2.1, (f3 b hb).1.2.2.2.2.2⟩
      have nC : H5 s3.heap.objs.size = none := by
        have z : H5 ce.locals = none := I6.free
        rw [cL] at z
        exact z
      obtain ⟨m, hn, _⟩ := I6.loc
      have hn : s6.heap.Ns ce.locals m := hn
      rw [cL] at hn
      exact hRR D s3.heap.objs.size s6 m H5 I7 qq hn (I3.fpOk (Nat.le_refl _) nC)
    · have ti := T.item (X.blk s3 H3 scope ce fp) rfl rfl rfl hc i [] s5 _ H5 (fun _ _ => False) I5 (stat I5 n5) st5 go
      refine thnF ti fun r s6 ⟨u, hr, h6⟩ => ?_
      subst hr
      refine thnF h6 fun _ s7 ⟨x, H7, I7, r7, y7, st7, n7⟩ => ?_
      have I7' := I7.pinned (stat I7 n7) (T.obj _ _ st7)
      refine thnF (pg.run _ s7 _ H7 x u _ I7' r7 (step x H7 y7)) fun _ s8 ⟨σ8, H8, I8, hw8, q8⟩ => ?_
      refine thnF (pt.run _ s8 σ8 H8 _ I8 q8) fun b s9 ⟨H9, I9, q9⟩ => ?_
      have fin : ∀ {s' : Shared} {H' : Hp}, L2.Inv (X.blk s3 H3 scope ce fp) ([] ++ pinsAt fp s7.heap) σ8 H' s' → Nx H' → ∃ m, m < n ∧ ∃ i H', L2.Inv (X.blk s3 H3 scope ce fp) [] (L2.wipe σ (own.map (·.2))) H' s' ∧ tn i s'.heap ∧ (∀ b ∈ fp, H' b = none) ∧ W i m H' := fun {s' H'} I' nx => by
        obtain ⟨m', hm, w'⟩ := hNx H' nx
        have pin' : ∀ b ∈ fp, ∀ o, s7.heap.get? b = some o → s'.heap.get? b = some o ∧ H' b = none := fun b hb o e =>
          let z := I'.pin (b, o) (List.mem_append_right _ (List.mem_append_right _ (mem_pinsAt hb e)))
          ⟨z.1, z.2.1⟩
        have hl : (L2.wipe σ (own.map (·.2))).length = σ8.length := by rw [← hw8, L2.wipe_length]
        refine ⟨m', hm, i + 1, H', (I'.unpinned (pins := [])).weak hl (fun j v e => ?_), T.keep _ _ _ st7 fun b hb o e => (pin' b hb o e).1, fun b hb => ?_, w'⟩
        · rw [← hw8] at e
          exact (L2.wipe_some e).1
        · obtain ⟨o, e, _⟩ := T.obj _ _ st7 b hb
          exact (pin' b hb o e).2
      cases b with
      | false =>
        simp only [Bool.false_eq_true, if_false] at q9 ⊢
        exact fin I9 q9
      | true =>
        simp only [if_true] at q9 ⊢
        refine thnF (pk.run _ s9 σ8 H9 _ I9 q9) fun z s10 ⟨yk, H10, I10, r10, q10⟩ => ?_
        refine thnF (pe.run _ s10 σ8 H10 _ I10 q10) fun z2 s11 ⟨yv, H11, I11, r11, M, ks, k, w, S, hM, hl, hk, ry, rz, nx⟩ => ?_
        exact n_dictSet (X := ⟨X.toCx.blk s3 H3 scope ce fp, X.z⟩) hu I11 S hM hl hk ry r10 r11 rz fun H12 s12 I12 st12 S12 => fin I12 (nx H12 st12 S12)
  exact codeAny_compStart_dict loop (T.self X.A 0 _ _ _ st4 loop)
theorem pe_dcN {kx vx tg iter : Expr} {ifs : List Expr} {scope : Scope} {own : List (Str × Nat)} {pos : Pos} {wi : TI} {g : TG} {tt : TT} {tk tv : TE} (hu : X.A.units + 66 < cLine) (hc : X.calm = true) (hN : X.N.Nodup) (hi : PI X tg iter wi) (ok : BlkOk X.N X.env.scope scope own)
    (hg : ∀ (s : Shared) (H : Hp) (C : Addr) (cl : List (Str × Addr)) (fp : List Addr), PG (X.blk s H scope (compEnvC scope cl C X.env) fp) tg g) (ht : ∀ (s : Shared) (H : Hp) (C : Addr) (cl : List (Str × Addr)) (fp : List Addr), PTs (X.blk s H scope (compEnvC scope cl C X.env) fp) ifs tt)
    (hk : ∀ (s : Shared) (H : Hp) (C : Addr) (cl : List (Str × Addr)) (fp : List Addr), PE (X.blk s H scope (compEnvC scope cl C X.env) fp) kx tk)
    (he : ∀ (s : Shared) (H : Hp) (C : Addr) (cl : List (Str × Addr)) (fp : List Addr), PE (X.blk s H scope (compEnvC scope cl C X.env) fp) vx tv) (hs : ∀ x, foldedSetIterable iter X.env x = pure x) :
    PE X (.DictComp kx vx [⟨tg, iter, ifs, 0⟩] scope pos) (tDcN (kwX X) wi g tt tk tv (own.map (·.2))) := by
  refine ⟨fun pins s σ H Q I h => ?_⟩
  rw [arm_eval_DictComp]
  refine dcn_core hu hc hN I hi ok hg ht hk he hs h fun D C s' m H' I' q hn f => ⟨m, hn, fun h'' sb => ?_⟩
  obtain ⟨f0, f1, f2, f3, f4, f5⟩ := f
  exact ⟨.ref D, H', I'.turned (t' := s'.toks) (fun b o hb e => (sb.2 b hb).trans e) f0 f1 f3 f4 f5, rfl, q⟩
end
theorem ev_dcompN {K : Kw} {ti : TI} {fi : WI} {tgr : TG} {tg : Tg} {tt : TT} {fc : WT} {tk tv : TE} {fk fv : WE} {vs : List Nat} (qi : EvI K ti fi) (qg : EvG K tgr tg) (qc : EvT K tt fc) (qk : EvE K tk fk) (qv : EvE K tv fv) (hvs : vs = tg.slots) :
    EvE K (tDcN K ti tgr tt tk tv vs) (dcompW fi tg fc fk fv) := fun σ H σu M Qu Q rs S hf c => by
  refine qi σ H σu M _ _ rs S hf fun J H1 items g ex M1 st S1 ok hg0 hex hq => ?_
  subst hex
  intro D hD hDs
  obtain ⟨hg1, hc⟩ := hq D (S1.fr hD)
  have S2 : Sim K (upd H1 D (.ext (dcnP K.2.1 D []))) (um M1 D (.dcn [])) := S1.new (m := .dcn []) hD ⟨[], upd_same, .nil, hDs, Nat.zero_le _⟩
  have st2 : Stp H1 M1 (upd H1 D (.ext (dcnP K.2.1 D []))) (um M1 D (.dcn [])) := Stp.new S1 hD
  let W : Nat → Nat → Hp → Prop := fun i m H2 => m = items.length - i ∧ i ≤ items.length ∧ ∃ M2, Stp H1 M1 H2 M2 ∧ Sim K H2 M2 ∧ g M2 ∧ dcompL (dstepW tg fc fk fv σu D) g (fun M => Qu (.ref D) M) (items.drop i) M2
  refine ⟨W, ⟨items.length, by simp, Nat.zero_le _, _, st2, S2, hg1, hc⟩, ?_⟩
  rintro i m H2 ⟨rfl, hi, M2, st3, S3, hg, hc⟩
  obtain ⟨go, stop⟩ := ok i H2 M2 st3 S3 hg
  by_cases hlt : i < items.length
  · right
    have hu : items[i]? = some items[i] := List.getElem?_eq_getElem hlt
    obtain ⟨jgo, jy⟩ := go _ hu
    refine ⟨jgo, fun H' => ∃ m', m' < items.length - i ∧ W (i + 1) m' H', fun H' h => h, fun x H3 hy => ?_⟩
    obtain ⟨st4, S4, rx⟩ := jy x H3 hy
    rw [List.drop_eq_getElem_cons hlt] at hc
    have hc : tgW tg items[i] (wipU σu tg.slots) fun σ2 => fc σ2 M2 fun b M3 => if b = true then fk σ2 M3 fun y M4 => fv σ2 M4 fun z M5 => dsetN D y z M5 (fun M' => g M' ∧ dcompL (dstepW tg fc fk fv σu D) g (fun M => Qu (.ref D) M) (items.drop (i + 1)) M') else (g M3 ∧ dcompL (dstepW tg fc fk fv σu D) g (fun M => Qu (.ref D) M) (items.drop (i + 1)) M3) := hc
    have rs3 : RelS K H3 (L2.wipe σ vs) (wipU σu tg.slots) := by
      rw [hvs]
      exact ((rs.stp S st).stp S1 (st3.trans S1 st4)).wipe _
    refine qg x items[i] (L2.wipe σ vs) H3 (wipU σu tg.slots) M2 _ _ rs3 rx hc fun σ4 σu4 rs4 hc4 hw => ?_
    refine ⟨by
      have e := hw vs (by rw [hvs]; exact fun i hi => hi)
      rw [e]
      exact wipe_wipe σ vs, ?_⟩
    refine qc σ4 H3 σu4 M2 _ _ rs4 S4 hc4 fun b H5 M5 st5 S5 hb => ?_
    have stA : Stp H1 M1 H5 M5 := (st3.trans S1 st4).trans S1 st5
    cases b with
    | false =>
      obtain ⟨g5, hrest⟩ := hb
      exact ⟨_, by omega, rfl, by omega, M5, stA, S5, g5, hrest⟩
    | true =>
      refine qk σ4 H5 σu4 M5 _ _ (rs4.stp S4 st5) S5 hb fun y H6 uy M6 st6 S6 ry hk => ?_
      refine qv σ4 H6 σu4 M6 _ _ ((rs4.stp S4 st5).stp S5 st6) S6 hk fun z H7 uz M7 st7 S7 rz hk2 => ?_
      obtain ⟨ks, h1, h2, h3, g7, hrest⟩ := hk2
      exact ⟨M7, ks, uy, uz, S7, h1, h3, h2, ry.stp S6 st7, rz, fun H8 st8 S8 => ⟨_, by omega, rfl, by omega, _, ((stA.trans S1 st6).trans S1 st7).trans S1 st8, S8, g7, hrest⟩⟩
  · left
    have e : i = items.length := by omega
    subst e
    rw [List.drop_length] at hc
    exact ⟨stop rfl, c (.ref D) H2 (.ref D) M2 (st.trans S st3) S3 (.ref D) hc⟩
section
variable {X : Cy}
theorem se_dcompN {tgE iter kx vx : Expr} {ifs : List Expr} {scope : Scope} {own : List (Str × Nat)} {tg : Tg} {fi : WI} {fc : WT} {fk fv : WE} {pos : Pos} (hu : X.A.units + 66 < cLine) (hi : SI X tgE iter fi) (h : CompOk X tgE kx ifs scope own tg fc fk) (h2 : CompOk X tgE vx ifs scope own tg fc fv) (hs : notSet iter = true) :
    SE1 X (dcompW fi tg fc fk fv) (.DictComp kx vx [⟨tgE, iter, ifs, 0⟩] scope pos) := by
  obtain ⟨ti, p, q⟩ := hi
  obtain ⟨tt, h1, h2', h3, h4⟩ := h.run
  exact ⟨_, pe_dcN hu h.calm h.nd p h.blk h1 h2' h3 (fun s H C cl fp => (h2.e s H C cl fp).pe) (no_set' hs), ev_dcompN q ev_cG h4 ev_cE ev_cE h.own⟩
end
end Pl

set_option maxHeartbeats 4000000
/-! a comprehension of two clauses -/
namespace Pl
open PySem L2
def cI (K : Kw) (f : WI) : TI := fun σ H R => ∃ (σu : SU) (M : Hm) (Qu : QI), RelS K H σ σu ∧ Sim K H M ∧ f σu M Qu ∧ ∀ J H' items g ex M', Stp H M H' M' → Sim K H' M' → ItOk K H' M' J items g → g M' → ex = (fun P => P) → Qu items g ex M' → R J H'
theorem SI.pi {X : Cy} {tg iter : Expr} {f : WI} (h : SI X tg iter f) : PI X tg iter (cI (kwX X) f) := by
  obtain ⟨t, p, q⟩ := h
  exact ⟨fun pins s σ H R I ⟨σu, M, Qu, rs, S, hf, c⟩ => p.run pins s σ H R I (q σ H σu M Qu R rs S hf c)⟩
theorem ev_comp2 {K : Kw} {ti : TI} {fi fi1 : WI} {tgr tgr1 : TG} {tg tg1 : Tg} {tt1 : TT} {fc1 : WT} {te : TE} {fe : WE} {vs vs1 : List Nat} (qi : EvI K ti fi) (qg : EvG K tgr tg) (qg1 : EvG K tgr1 tg1) (qc : EvT K tt1 fc1) (qe : EvE K te fe) (hsub : ∀ i ∈ tg.slots, i ∈ vs) (hvs1 : vs1 = tg1.slots) :
    EvE K (tLc2 ti tgr tYes (cI K fi1) tgr1 tt1 te vs vs1) (comp2W fi tg vs fi1 tg1 fc1 fe) := fun σ H σu M Qu Q rs S hf c => by
  refine qi σ H σu M _ _ rs S hf fun J H1 items g ex M1 st S1 ok hg0 hex hq => ?_
  subst hex
  intro D hD
  obtain ⟨hg1, hc⟩ := hq D (S1.fr hD)
  have S2 : Sim K (upd H1 D (.lst [])) (um M1 D (.lst [])) := S1.new (m := .lst []) hD ⟨[], upd_same, .nil⟩
  have st2 : Stp H1 M1 (upd H1 D (.lst [])) (um M1 D (.lst [])) := Stp.new S1 hD
  let stepO := step2W tg vs fi1 tg1 fc1 fe σu D
  let W : Nat → Nat → Hp → Prop := fun i m H2 => m = items.length - i ∧ i ≤ items.length ∧ ∃ M2, Stp H1 M1 H2 M2 ∧ Sim K H2 M2 ∧ g M2 ∧ dcompL stepO g (fun M => Qu (.ref D) M) (items.drop i) M2
  refine ⟨W, ⟨items.length, by simp, Nat.zero_le _, _, st2, S2, hg1, hc⟩, ?_⟩
  rintro i m H2 ⟨rfl, hi, M2, st3, S3, hg, hc⟩
  obtain ⟨go, stop⟩ := ok i H2 M2 st3 S3 hg
  by_cases hlt : i < items.length
  · right
    have hu : items[i]? = some items[i] := List.getElem?_eq_getElem hlt
    obtain ⟨jgo, jy⟩ := go _ hu
    refine ⟨jgo, fun H' => ∃ m', m' < items.length - i ∧ W (i + 1) m' H', fun H' h => h, fun x H3 hy => ?_⟩
    obtain ⟨st4, S4, rx⟩ := jy x H3 hy
    rw [List.drop_eq_getElem_cons hlt] at hc
    have hc : step2W tg vs fi1 tg1 fc1 fe σu D items[i] (fun M' => g M' ∧ dcompL stepO g (fun M => Qu (.ref D) M) (items.drop (i + 1)) M') M2 := hc
    have rs3 : RelS K H3 (L2.wipe σ vs) (wipU σu vs) := ((rs.stp S st).stp S1 (st3.trans S1 st4)).wipe _
    refine qg x items[i] (L2.wipe σ vs) H3 (wipU σu vs) M2 _ _ rs3 rx hc fun σ4 σu4 rs4 hc4 hw => ?_
    refine ⟨(hw vs hsub).trans (wipe_wipe σ vs), ?_⟩
    unfold tYes
    dsimp only
    rw [if_pos rfl]
    refine ⟨σu4, M2, _, rs4, S4, hc4, fun J1 H4 items1 g1 ex1 M4 st5 S5 ok1 hg4 hex1 hq1 => ?_⟩
    subst hex1
    have stA : Stp H1 M1 H4 M4 := (st3.trans S1 st4).trans S1 st5
    let W1 : Nat → Nat → Hp → Prop := fun j k H5 => k = items1.length - j ∧ j ≤ items1.length ∧ ∃ M5, Stp H4 M4 H5 M5 ∧ Sim K H5 M5 ∧ g1 M5 ∧ dcompL (step1W tg1 fc1 fe σu4 D) g1 (fun M' => g M' ∧ dcompL stepO g (fun M => Qu (.ref D) M) (items.drop (i + 1)) M') (items1.drop j) M5
    refine ⟨W1, ⟨items1.length, by simp, Nat.zero_le _, M4, Stp.refl _ _, S5, hg4, hq1⟩, ?_⟩
    rintro j k H5 ⟨rfl, hj, M5, st6, S6, hg5, hc5⟩
    obtain ⟨go1, stop1⟩ := ok1 j H5 M5 st6 S6 hg5
    by_cases hlt1 : j < items1.length
    · right
      have hu1 : items1[j]? = some items1[j] := List.getElem?_eq_getElem hlt1
      obtain ⟨jgo1, jy1⟩ := go1 _ hu1
      refine ⟨jgo1, fun H' => ∃ m', m' < items1.length - j ∧ W1 (j + 1) m' H', fun H' h => h, fun x1 H6 hy1 => ?_⟩
      obtain ⟨st7, S7, rx1⟩ := jy1 x1 H6 hy1
      rw [List.drop_eq_getElem_cons hlt1] at hc5
      have hc5 : step1W tg1 fc1 fe σu4 D items1[j] (fun M' => g1 M' ∧ dcompL (step1W tg1 fc1 fe σu4 D) g1 (fun M' => g M' ∧ dcompL stepO g (fun M => Qu (.ref D) M) (items.drop (i + 1)) M') (items1.drop (j + 1)) M') M5 := hc5
      have rs6 : RelS K H6 (L2.wipe σ4 vs1) (wipU σu4 tg1.slots) := by
        rw [hvs1]
        exact ((rs4.stp S4 st5).stp S5 (st6.trans S5 st7)).wipe _
      refine qg1 x1 items1[j] (L2.wipe σ4 vs1) H6 (wipU σu4 tg1.slots) M5 _ _ rs6 rx1 hc5 fun σ7 σu7 rs7 hc7 hw7 => ?_
      refine ⟨(hw7 vs1 (by rw [hvs1]; exact fun i hi => hi)).trans (wipe_wipe σ4 vs1), ?_⟩
      refine qc σ7 H6 σu7 M5 _ _ rs7 S7 hc7 fun b H8 M8 st8 S8 hb => ?_
      have stB : Stp H4 M4 H8 M8 := (st6.trans S5 st7).trans S5 st8
      cases b with
      | false =>
        obtain ⟨g8, hrest⟩ := hb
        exact ⟨_, by omega, rfl, by omega, M8, stB, S8, g8, hrest⟩
      | true =>
        refine qe σ7 H8 σu7 M8 _ _ (rs7.stp S7 st8) S8 hb fun y H9 uy M9 st9 S9 ry hk => ?_
        obtain ⟨us, hm, hl, g9, hrest⟩ := hk
        obtain ⟨vsD, eD, rD⟩ := S9 _ _ hm
        have stC := Stp.mut (H := H9) (o := .lst (vsD ++ [y])) (m := .lst (us ++ [uy])) hm
        exact ⟨vsD, eD, by rw [rD.length]; exact lt_line hl, _, by omega, rfl, by omega, _, (stB.trans S5 st9).trans S5 stC, S9.mut (m := .lst (us ++ [uy])) hm rfl ⟨_, upd_same, (rD.append (.cons ry .nil)).stp S9 stC⟩, g9, hrest⟩
    · left
      have e : j = items1.length := by omega
      subst e
      rw [List.drop_length] at hc5
      obtain ⟨gE, hrest⟩ := (show g M5 ∧ dcompL stepO g (fun M => Qu (.ref D) M) (items.drop (i + 1)) M5 from hc5)
      exact ⟨stop1 rfl, _, by omega, rfl, by omega, M5, stA.trans S1 st6, S6, gE, hrest⟩
  · left
    have e : i = items.length := by omega
    subst e
    rw [List.drop_length] at hc
    exact ⟨stop rfl, c (.ref D) H2 (.ref D) M2 (st.trans S st3) S3 (.ref D) hc⟩
section
variable {X : Cy}
structure CompOk2 (X : Cy) (tgE tgE1 iter1 elt : Expr) (ifs1 : List Expr) (scope : Scope) (own : List (Str × Nat)) (tg tg1 : Tg) (fi1 : WI) (fc1 : WT) (fe : WE) : Prop where
  calm : X.calm = true
  nd : X.N.Nodup
  blk : BlkOk X.N X.env.scope scope own
  sub : ∀ i ∈ tg.slots, i ∈ own.map (·.2)
  sub1 : ∀ i ∈ tg1.slots, i ∈ own.map (·.2)
  g : ∀ s H C cl fp, SG (Blk X scope s H C cl fp) tgE tg
  g1 : ∀ s H C cl fp, SG (Blk X scope s H C cl fp) tgE1 tg1
  i1 : ∀ s H C cl fp, SI (Blk X scope s H C cl fp) tgE1 iter1 fi1
  c : (ifs1 = [] ∧ fc1 = fun _ M Q => Q true M) ∨ ∃ i, ifs1 = [i] ∧ ∀ s H C cl fp, ST (Blk X scope s H C cl fp) fc1 i
  e : ∀ s H C cl fp, SE1 (Blk X scope s H C cl fp) fe elt
theorem CompOk2.run {tgE tgE1 iter1 elt : Expr} {ifs1 : List Expr} {scope : Scope} {own : List (Str × Nat)} {tg tg1 : Tg} {fi1 : WI} {fc1 : WT} {fe : WE} (h : CompOk2 X tgE tgE1 iter1 elt ifs1 scope own tg tg1 fi1 fc1 fe) :
    ∃ tt, (∀ s H C cl fp, PTs (Blk X scope s H C cl fp) ifs1 tt) ∧ EvT (kwX X) tt fc1 := by
  rcases h.c with ⟨rfl, rfl⟩ | ⟨i, rfl, hi⟩
  · exact ⟨tYes, fun _ _ _ _ _ => pts_nil, fun σ H σu M Qu Q rs S hf c => c _ _ _ (Stp.refl H M) S hf⟩
  · exact ⟨cT (kwX X) fc1, fun s H C cl fp => pts_one (hi s H C cl fp).pt, ev_cT⟩
theorem se_comp2 {tgE iter tgE1 iter1 elt : Expr} {ifs1 : List Expr} {scope : Scope} {own : List (Str × Nat)} {tg tg1 : Tg} {fi fi1 : WI} {fc1 : WT} {fe : WE} {pos : Pos} (hi : SI X tgE iter fi) (h : CompOk2 X tgE tgE1 iter1 elt ifs1 scope own tg tg1 fi1 fc1 fe) (hs : notSet iter = true) (hs1 : notSet iter1 = true) :
    SE1 X (comp2W fi tg (own.map (·.2)) fi1 tg1 fc1 fe) (.ListComp elt [⟨tgE, iter, [], 0⟩, ⟨tgE1, iter1, ifs1, 0⟩] scope pos) := by
  obtain ⟨ti, p, q⟩ := hi
  obtain ⟨tt, t1, t2⟩ := h.run
  exact ⟨_, pe_lc2 h.calm h.nd p h.blk h.sub1 (fun s H C cl fp => (h.g s H C cl fp).pg) (fun _ _ _ _ _ => pts_nil) (fun s H C cl fp => (h.i1 s H C cl fp).pi) (fun s H C cl fp => (h.g1 s H C cl fp).pg) t1 (fun s H C cl fp => (h.e s H C cl fp).pe) (no_set' hs) (fun _ => no_set' hs1),
    ev_comp2 q ev_cG ev_cG t2 ev_cE h.sub rfl⟩
theorem ss_asgC2 {i : Nat} {y : Str} {tgE iter tgE1 iter1 elt : Expr} {ifs1 : List Expr} {scope : Scope} {own : List (Str × Nat)} {tg tg1 : Tg} {fi fi1 : WI} {fc1 : WT} {fe : WE} {pos pos' spos : Pos} (hy : X.N[i]? = some y) (hyl : X.env.scope.names.lookup y = some .local)
    (hsw : swapsWith (.ListComp elt [⟨tgE, iter, [], 0⟩, ⟨tgE1, iter1, ifs1, 0⟩] scope pos) (some (.Name y pos')) spos.line X.env = pure true) (hi : SI X tgE iter fi) (h : CompOk2 X tgE tgE1 iter1 elt ifs1 scope own tg tg1 fi1 fc1 fe) (hs : notSet iter = true) (hs1 : notSet iter1 = true) :
    SS X (fun D σ M => comp2W fi tg (own.map (·.2)) fi1 tg1 fc1 fe σ M fun x M1 => D.nx (σ.set i (some x)) M1) (.Assign [.Name y pos'] (.ListComp elt [⟨tgE, iter, [], 0⟩, ⟨tgE1, iter1, ifs1, 0⟩] scope pos) spos) := by
  obtain ⟨ti, p, q⟩ := hi
  obtain ⟨tt, t1, t2⟩ := h.run
  exact ⟨_, ps_setLc2 h.calm h.nd hy hyl hsw p h.blk h.sub1 (fun s H C cl fp => (h.g s H C cl fp).pg) (fun _ _ _ _ _ => pts_nil) (fun s H C cl fp => (h.i1 s H C cl fp).pi) (fun s H C cl fp => (h.g1 s H C cl fp).pg) t1 (fun s H C cl fp => (h.e s H C cl fp).pe) (no_set' hs) (fun _ => no_set' hs1),
    ev_asg (ev_comp2 q ev_cG ev_cG t2 ev_cE h.sub rfl)⟩
end
end Pl

set_option maxHeartbeats 4000000
/-! a dict display with one entry, its key a tuple -/
namespace Pl
open PySem PySem.Spec PyProof.Rows L2
def DNewN (K : Kw) (D : Addr) (y z : V) (H : Hp) (Nx : Hp → Prop) : Prop := ∃ M k w, Sim K H M ∧ M D = some (.dcn []) ∧ isKeyN k = true ∧ Rel K H y k ∧ Rel K H z w ∧
  ∀ H', Stp H M H' (um M D (.dcn [(k, w)])) → Sim K H' (um M D (.dcn [(k, w)])) → Nx H'
def tDispN (K : Kw) (t1 t2 : TE) : TE := fun σ H Q => ∀ p, H p = none → (p == sysModules) = false → t1 σ (upd H p (.ext (dcnP K.2.1 p []))) fun y H1 => t2 σ H1 fun z H2 => DNewN K p y z H2 fun H' => Q (.ref p) H'
section
variable {X : Cy}
theorem pe_dispN (hu : X.A.units + 66 < cLine) {kx vx : Expr} {pos : Pos} {t1 t2 : TE} (h1 : PE X kx t1) (h2 : PE X vx t2) : PE X (.Dict [some kx] [vx] pos) (tDispN (kwX X) t1 t2) := by
  refine ⟨fun pins s σ H Q I q => ?_⟩
  have hn := I.hok.fresh (Nat.le_refl s.heap.objs.size)
  obtain ⟨_, hDs, _⟩ := dt_empty (P := X.prog) (w := X.w) (H := H) s.heap I.big
  have d0 : dcnP X.w s.heap.objs.size [] (s.heap.push { cls := .type "dict", data := .dict #[] }) := ⟨_, #[], _, Heap.get?_push_size _ rfl, ⟨rfl, rfl, rfl⟩, rfl, rfl, List.nodup_nil⟩
  have I1 := I.laid (a := s.heap.objs.size) (o := .ext (dcnP X.w s.heap.objs.size [])) (h' := s.heap.push { cls := .type "dict", data := .dict #[] }) (t' := s.toks) (fun b o e => Heap.get?_push_of_some _ e) (Nat.le_refl _) (dcn_ok d0)
  have hpt := pairTrees_length [some kx] [vx] X.env pos rfl rfl
  have h1p : ([some kx] : List (Option Expr)).length = 1 := rfl
  rw [h1p] at hpt
  rw [arm_eval_Dict, zip_pairTrees [some kx] [vx] X.env pos rfl rfl, dictDisplay_pairs (pairTrees [some kx] [vx] X.env pos) (fun z => by rw [z] at hpt; cases hpt) (by rw [hpt]; decide)]
  refine wpAny_bind (wpAny_standAt (wpAny_bind (wpAny_subDictH (knd := nestedKind X.prog X.w) (show X.A.units + 8 < cLine by omega) (by rw [hpt]; decide) ?_)))
  have q0 := q _ hn hDs
  refine thn ((pps_cons h1 h2 pps_nil).run pins _ σ _ (fun ps H2 => match ps with | [(y, z)] => DNewN (kwX X) s.heap.objs.size y z H2 fun H' => Q (.ref s.heap.objs.size) H' | _ => False) I1 q0) fun ws s2 ⟨ps, H2, I2, rel, q2⟩ => ?_
  split at q2
  · rename_i y z
    obtain ⟨M, k, w, S, hm, hk, r, rw', q3⟩ := q2
    cases rel with
    | @cons _ wv _ _ rh rt =>
      cases rt
      obtain ⟨u, x⟩ := wv
      obtain ⟨rv, ry⟩ := rh
      obtain ⟨xs, e, rn, dd, hs, hz⟩ := dcn_of I2 S hm
      cases rn
      obtain ⟨a, rfl⟩ := keyN_ref hk r
      obtain rfl : u = Value.ref a := rv
      refine ⟨[(nk k, a, x)], ⟨rfl, rfl, keyN_is I2.hok I2.kIn hk r, True.intro⟩, dd, fun h' tk dd' sb => wpAny_pure ?_⟩
      have dd' : Heap.DictOfH (nestedKind X.prog X.w) h' s.heap.objs.size [(nk k, a, x)] := dd'
      obtain ⟨o, es, ep, g1, g2, g3, g4, g5, g6⟩ := dd'
      have hd : dcnP X.w s.heap.objs.size [(nk k, a, x)] h' := ⟨o, es, ep, g1, g2, g3, g4, g6⟩
      have I3 := d_write (t' := tk) I2 (by rw [e]; trivial) sb ⟨o, g1⟩ (dcn_ok hd)
      have st : Stp H2 M (upd H2 s.heap.objs.size (.ext (dcnP X.w s.heap.objs.size [(nk k, a, x)]))) (um M s.heap.objs.size (.dcn [(k, w)])) := Stp.mut hm
      refine ⟨.ref s.heap.objs.size, _, I3, rfl, q3 _ st (S.mut (m := .dcn [(k, w)]) hm rfl ⟨_, upd_same, .cons ⟨⟨hk, rfl, r.stp S st⟩, _, ry, rw'.stp S st⟩ .nil, hs, by rw [sizeLine_eq]; simp⟩)⟩
  · exact q2.elim
theorem se_ddispN (hu : X.A.units + 66 < cLine) {kx vx : Expr} {pos : Pos} {f g : WE} (h1 : SE1 X f kx) (h2 : SE1 X g vx) : SE1 X (ddispNW f g) (.Dict [some kx] [vx] pos) := by
  obtain ⟨t1, p1, q1⟩ := h1
  obtain ⟨t2, p2, q2⟩ := h2
  refine ⟨_, pe_dispN hu p1 p2, fun σ H σu M Qu Q rs S hf c p hp hs => ?_⟩
  have S1 : Sim (kwX X) (upd H p (.ext (dcnP X.w p []))) (um M p (.dcn [])) := S.new (m := .dcn []) hp ⟨[], upd_same, .nil, hs, Nat.zero_le _⟩
  have st1 : Stp H M (upd H p (.ext (dcnP X.w p []))) (um M p (.dcn [])) := Stp.new S hp
  refine q1 σ _ σu _ _ _ (rs.stp S st1) S1 (hf p (S.fr hp)) fun y H1 k M1 st2 S2 ry hf1 => ?_
  refine q2 σ H1 σu M1 _ _ ((rs.stp S st1).stp S1 st2) S2 hf1 fun z H2 u M2 st3 S3 rz hq => ?_
  obtain ⟨hm, hk, hq⟩ := hq
  refine ⟨M2, k, u, S3, hm, hk, ry.stp S2 st3, rz, fun H' st4 S4 => ?_⟩
  exact c _ _ (.ref p) _ (((st1.trans S st2).trans S st3).trans S st4) S4 (.ref p) hq
end
end Pl

set_option maxHeartbeats 4000000
/-! d.get(k, x) where the keys of d are nested -/
namespace Pl
open PySem PySem.Spec PyProof.Rows L2
def DGetN (K : Kw) (p : Addr) (y z : V) (H : Hp) (Q : VK) : Prop := ∃ M ks k d, Sim K H M ∧ M p = some (.dcn ks) ∧ isKeyN k = true ∧ Rel K H y k ∧ Rel K H z d ∧ ∀ v, Rel K H v ((dfind ks k).getD d) → Q v H
def tDGetN (K : Kw) (t1 t2 t3 : TE) : TE := fun σ H Q => t1 σ H fun x H1 => ∃ p M ks, x = .ref p ∧ (Sim K H1 M ∧ M p = some (.dcn ks)) ∧ t2 σ H1 fun y H2 => t3 σ H2 fun z H3 => DGetN K p y z H3 Q
section
variable {X : Cy}
theorem pe_dgetN (hu : X.A.units + 66 < cLine) {o e d : Expr} {apos pos : Pos} {t1 t2 t3 : TE} (hs : isStar e = false) (hs2 : isStar d = false) (hline : (apos.endLine == pos.line) = true) (hb : notSup o = true) (h1 : PE X o t1) (h2 : PE X e t2) (h3 : PE X d t3) :
    PE X (.Call (.Attribute o "get" apos) [e, d] [] pos) (tDGetN (kwX X) t1 t2 t3) := by
  have hall : [e, d].all (fun e => !isStar e) = true := by simp [hs, hs2]
  refine ⟨fun pins s σ H Q I h => ?_⟩
  refine wpAny_Call_method (base_of hb) (few_args hall (by simp)) hline PySem.F.plainAttrs_dict PySem.F.slot_dict_get PySem.F.type_dict_get (thn (h1.run pins s σ H _ I h) fun u s1 ⟨x, H1, I1, rx, p, M1, ks1, ex, ⟨S1, hm1⟩, q1⟩ => ?_)
  subst ex
  obtain rfl : u = Value.ref p := rx
  obtain ⟨xs1, e1, rn1, dd1, hsys, hz1⟩ := dcn_of I1 S1 hm1
  refine ⟨dd1.typeIs, fun b q => ?_, ?_⟩
  · cases q
    obtain ⟨ob, _, _, g1, g2, _⟩ := dd1
    exact ⟨ob, g1, g2.2.1⟩
  rw [star_cons hs, star_cons hs2]
  refine wpAny_dict_get2_heap (knd := nestedKind X.prog X.w) (show (nestedKind X.prog X.w).room X.A.in1 from (show X.A.in1.units + 8 < cLine by unfold Around.in1; simp only; omega)) hsys ?_
  refine thn (h2.run pins s1 σ H1 _ I1 q1) fun iv s2 ⟨y, H2, I2, ry, q2⟩ => ?_
  refine thn (h3.run pins s2 σ H2 _ I2 q2) fun fv s3 ⟨z, H3, I3, rz, q3⟩ => ?_
  obtain ⟨M, ks, k, dv, S, hm, hk, r, rd, q3⟩ := q3
  obtain ⟨xs, e3, rn, dd, hs3, hz⟩ := dcn_of I3 S hm
  obtain ⟨a, rfl⟩ := keyN_ref hk r
  obtain rfl : iv = Value.ref a := ry
  refine ⟨a, nk k, xs, rfl, keyN_is I3.hok I3.kIn hk r, dd, ?_⟩
  rcases rn.find hk with ⟨g1, g2⟩ | ⟨q0, v, w', g1, g2, g3, g4⟩
  · rw [g1]
    rw [g2] at q3
    exact ⟨z, H3, I3.tok _, rz, q3 z rd⟩
  · rw [g1]
    rw [g2] at q3
    exact ⟨v, H3, I3.tok _, g3, q3 v g4⟩
theorem se_dgetN {o e d : Expr} {f g h : WE} {apos pos : Pos} (hu : X.A.units + 66 < cLine) (hs : isStar e = false) (hs2 : isStar d = false) (hline : (apos.endLine == pos.line) = true) (hb : notSup o = true) (h1 : SE1 X f o) (h2 : SE1 X g e) (h3 : SE1 X h d) :
    SE1 X (fun σ M Q => f σ M fun x M1 => (∃ p ks, x = .ref p ∧ M1 p = some (.dcn ks)) ∧ g σ M1 fun y M2 => h σ M2 fun v M3 => dgetNW x y v M3 Q) (.Call (.Attribute o "get" apos) [e, d] [] pos) := by
  obtain ⟨t1, p1, q1⟩ := h1
  obtain ⟨t2, p2, q2⟩ := h2
  obtain ⟨t3, p3, q3⟩ := h3
  refine ⟨_, pe_dgetN hu hs hs2 hline hb p1 p2 p3, fun σ H σu M Qu Q rs S hf c => ?_⟩
  refine q1 σ H σu M _ _ rs S hf fun v H1 u M1 st S1 r hq => ?_
  obtain ⟨⟨p, ks, rfl, hm⟩, hq⟩ := hq
  cases r
  refine ⟨p, M1, ks, rfl, ⟨S1, hm⟩, ?_⟩
  refine q2 σ H1 σu M1 _ _ (rs.stp S st) S1 hq fun y H2 uy M2 st2 S2 ry hq2 => ?_
  refine q3 σ H2 σu M2 _ _ (rs.stp S (st.trans S st2)) S2 hq2 fun w H3 uw M3 st3 S3 rw' hq3 => ?_
  obtain ⟨p', ks', e, hm3, hk, hq3⟩ := hq3
  cases e
  have cc := c.tr S ((st.trans S st2).trans S st3)
  exact ⟨M3, ks', uy, uw, S3, hm3, hk, ry.stp S2 st3, rw', fun v rv => cc.at_ S3 rv hq3⟩
end
end Pl

set_option maxHeartbeats 4000000
/-! an own error class C(HoldError(ValueError)): its __init__, which says super().__init__(text) and keeps one field -/
namespace Pl
namespace Xo
open PySem PySem.W PySem.Calls PyProof.Rows PySem.Spec
abbrev vei : String := "ValueError.__init__"
abbrev eob (C t : Addr) : Obj := HandSPX.excO C t
section
variable {prog : Program} {w : World} {A : Around} {E : Value → Shared → Prop} {hh : Heap} {gg : Array GenState} {dd : Drawn} {tt : Nat} {oo : OsState}
variable {nm qn : Str} {C N : Addr} {bs bm : List Value} {hdct : Bool} {sn : List Str} {sub : List Value} {ab : Bool} {col : Option Bool} {dx0 : Option Addr} {k0 k1 k2 k3 k5 : Option Value}
/-- the bound ValueError.__init__ is called: the args are laid anew -/
theorem bound_run {e ub t0 : Addr} {rest : List Value} {Q : Value → Shared → Prop}
    (hC : hh.get? C = some (excClassObj nm qn C N bs bm hdct sn sub ab col dx0 k0 k1 k2 k3 k5 "ValueError.__new__")) (hE : hh.get? e = some (eob C t0)) (hU : hh.get? ub = some (kxs_mw vei e)) (hR : rest.length ≤ sizeLine)
    (hQ : ∀ h2 t2, (∀ b o, b ≠ e → hh.get? b = some o → h2.get? b = some o) → h2.get? e = some (eob C t2) → Q .none ⟨h2, gg, dd, tt, oo⟩) : wpAny (model prog w) A (call (.ref ub) rest) Q E ⟨hh, gg, dd, tt, oo⟩ := by
  refine wpAny_call (codeAny_of_tree ?_); show wpAny _ A.in1 (callAny (.ref ub) ⟨rest, []⟩) _ _ _
  simp only [callAny]; refine wpAny_bind (wpAny_load hU ?_)
  simp only [kxs_mw, show ((Value.type "method-wrapper" == Value.type "method" || Value.type "method-wrapper" == Value.type "builtin_function_or_method") || Value.type "method-wrapper" == Value.type "method-wrapper") = true by decide, if_true]
  refine W.KFB.if_so (by decide) (wpAny_bind (ESX.check_bound F.excBase_ValueError hC hE rfl (wpAny_bind (wpAny_pure (wpAny_pure ⟨Code.quiet_builtin _ (by decide +kernel), codeAny_builtin F.excBase_ValueError.initEntry ?_⟩)))))
  rw [Around.under_plainId F.excBase_ValueError.init.plain _]; wp_walk
  refine hQ _ hh.objs.size (fun b o hb ho => (Heap.get?_update_other _ _ (Ne.symm hb)).trans (Heap.get?_push_of_some _ ho)) ?_
  rw [Heap.get?_update_self _ (Heap.get?_push_of_some _ hE) rfl]; rfl
end
/-- what the written part says of the class at C and of its __init__ at fI: cda its code, cc the cell of __class__ -/
structure XFn (K : Frag) (P : Program) (C fI cda cc : Addr) (fd : FuncData) : Prop where
  ox : L2.OexC K C
  iC : findIn K (.ref C) "__init__" = some (some (.ref fI))
  tI : typeIn K (.ref fI) = some (.type "function")
  fn : ∃ oc od osl, K.lookup fI = some ⟨oc, od, .func fd, osl⟩
  cl : fd.closure = [(("__class__" : Str), cc)]
  gl : fd.globals = mainGlobals
  bn : fd.builtins = builtinsNs
  cd : fd.code = .ref cda
  cdn : codeIn K (.ref cda) fd.qualname = true
  cdr : ∃ c1 c2 vs c3 file tf, K.lookup cda = some ⟨c1, c2, .fields vs, c3⟩ ∧ vs[2]? = some (.str file tf) ∧ ((P.main.file : Str) == file) = true
  cell : ∃ c1 c2 c3, K.lookup cc = some ⟨c1, c2, .cell (some (.ref C)), c3⟩
  me : mroIn K C (.ref C) = some true
  up : ks_superIn K C C "__init__" = some (some (.builtin vei))
  ve : subIn K (.ref C) (.type "ValueError") = some true
  any : nsIn K cStatics "thirdparty.any" = some none
/-- the scope of such an __init__ -/
structure XSc (P : Program) (mg : Str → Option Value) (nS : Str) (fd : FuncData) : Prop where
  kind : fd.scope.kind = .function
  co : fd.scope.isCoroutine = false
  gen : fd.scope.isGenerator = false
  nocell : ∀ y ∈ fd.scope.names, y.2 ≠ .cell
  sup : fd.scope.names.lookup ("super" : Str) = some .globalImplicit
  cls : fd.scope.names.lookup ("__class__" : Str) = some .free
  slf : fd.scope.names.lookup nS = some .local
  par : ∃ ar, (fd.params.posonlyargs ++ fd.params.args).head? = some ar ∧ ar.arg = nS
  top : (P.main.scope.names.lookup ("super" : Str)).isSome = false
  nog : mg "super" = none
theorem clsIn_ox {K : Frag} {C : Addr} (T : L2.OexC K C) : ∃ cd, clsIn K C = some cd ∧ HandSPX.refsVE cd.mro = true ∧ cd.hasDict = true := by
  obtain ⟨n1, n2, n3, n4, n5, n6, n7, n8, n9, n10, n11, n12, n13, n14, n15, hC, hb⟩ := T.cls
  refine ⟨_, by unfold clsIn; rw [hC], ?_, rfl⟩
  exact show HandSPX.refsVE (.ref C :: n5) = true from hb
section
variable {prog : Program} {w : World} {A : Around} {E : Value → Shared → Prop} {hh : Heap} {gg : Array GenState} {dd : Drawn} {tt : Nat} {oo : OsState}
variable {K : Frag} {mg : Str → Option Value} {C fI cda cc e L : Addr} {fd : FuncData} {self : Str} {ms mb : Str → Option Value}
/-- super().__init__(arg) -/
theorem sup_run {body : List Stmt} {arg : Expr} {p0 p1 p2 pos : Pos} {t0 : Addr} {Q : Value → Shared → Prop} (X : XFn K prog C fI cda cc fd) (S : XSc prog mg self fd) (hK : K.In hh) (hns : hh.Ns L ms) (hself : ms self = some (.ref e)) (hE : hh.get? e = some (eob C t0))
    (hg : hh.Ns mainGlobals mg) (hb : hh.Ns builtinsNs mb) (hbv : mb "super" = some (.type "super"))
    (harg : ∀ (s2 : Shared) (Q2 : Value → Shared → Prop), s2.heap.Ns L ms → (∀ u tk, Q2 u { s2 with toks := tk }) → wpAny (model prog w) A (eval arg (callEnv fd L fI)) Q2 E s2)
    (hstar : starEach [arg] (callEnv fd L fI) = [(false, eval arg (callEnv fd L fI))]) {pl : Sem Bool}
    (hev : eval (.Call (.Attribute (.Call (.Name "super" p0) [] [] p1) "__init__" p2) [arg] [] pos) (callEnv fd L fI) = (do
      let ov ← attributeBase (.Call (.Name "super" p0) [] [] p1) "__init__" (callEnv fd L fI) (eval (.Call (.Name "super" p0) [] [] p1) (callEnv fd L fI)); standAt p2.atName
      let (f, first) ← holding [ov] (getMethod ov "__init__" pl); callWith pos f first (backTo pos (starEach [arg] (callEnv fd L fI))) []))
    (hQ : ∀ h2 t2 tk, (∀ b o, b ≠ e → hh.get? b = some o → h2.get? b = some o) → h2.get? e = some (eob C t2) → Q .none ⟨h2, gg, dd, tk, oo⟩) :
    _root_.PySem.wpAt (model prog w) A (.func body (callEnv fd L fI)) (eval (.Call (.Attribute (.Call (.Name "super" p0) [] [] p1) "__init__" p2) [arg] [] pos) (callEnv fd L fI)) Q E ⟨hh, gg, dd, tt, oo⟩ := by
  obtain ⟨oc, od, osl, hf⟩ := X.fn
  obtain ⟨c1, c2, vs, c3, file, tf, hcd, hvs, hfile⟩ := X.cdr
  obtain ⟨e1, e2, e3, hcell⟩ := X.cell
  obtain ⟨ar, har, harn⟩ := S.par
  obtain ⟨cdv, hcls, hmro, hhd⟩ := clsIn_ox X.ox
  have henvk : (callEnv fd L fI).scope = fd.scope := rfl
  refine ks_wpAt_MethodCall (pl := pl) (ks_wpAt_super_base (env := callEnv fd L fI) S.sup S.cls rfl rfl (hK _ _ hf) rfl har X.cd (hK _ _ hcd) rfl hvs hfile S.top ?_) hev
  refine ks_loadName_global S.kind S.sup (loadGlobal_builtin (env := callEnv fd L fI) (by rw [show (callEnv fd L fI).globals = mainGlobals from X.gl]; exact hg) S.nog (by rw [show (callEnv fd L fI).builtins = builtinsNs from X.bn]; exact hb) hbv ⟨rfl, ?_⟩)
  refine wpAny_loadName_free S.kind S.cls (c := cc) (by rw [show (callEnv fd L fI).cells = fd.closure from rfl, X.cl]; rfl) ⟨_, hK _ _ hcell, rfl⟩ ?_
  refine wpAny_loadName_local S.kind (by rw [harn]; exact S.slf) hns (v := .ref e) (by rw [harn]; exact hself) ?_
  obtain ⟨oD, hD1, hD2⟩ : ∃ oD, hh.get? C = some oD ∧ oD.data = .cls cdv := by
    unfold clsIn at hcls
    split at hcls
    · rename_i z1 z2 z3 z4 ho; cases hcls; exact ⟨_, hK _ _ ho, rfl⟩
    · cases hcls
  refine ks_wpAny_isType_cls hD1 hD2 ⟨rfl, ks_wpAny_call_super hD1 hD2 hE rfl (fun c z => nomatch z) (looks_mroIn hK X.me) fun h1 hso kp1 => ?_⟩
  have hE1 := kp1 _ _ hE
  have hK1 : K.In h1 := hK.keeps kp1
  have hI : W.Looks (model prog w) h1 (isInstance (.ref e) (.type "ValueError")) true := (show InstAt h1 e (eob C t0) C none from ⟨hE1, rfl, rfl, trivial⟩).type.andThen (looks_subIn hK1 X.ve)
  have hL : ∃ oL, hh.get? L = some oL := by obtain ⟨oL, _, _, q, _⟩ := hns; exact ⟨oL, q⟩
  refine kxs_getMethod (i := vei) kxs_ValueError hso (looks_opaque hK1 X.any) (l₀ := cdv.mro) (fun A' Q' E' s' k q => wpAny_bind ((looks_clsIn hK1 hcls) A' _ E' s' k (wpAny_pure q))) rfl hK1 (by have u := X.up; unfold ks_superIn at u; rw [hcls] at u; exact u) hI
    (fun z => by subst z; rw [hE] at hD1; cases hD1; cases hD2) rfl ?_
  have kp2 : ∀ b o, hh.get? b = some o → (h1.push (kxs_mw vei e)).get? b = some o := fun b o z => Heap.get?_push_of_some _ (kp1 b o z)
  have hU : (h1.push (kxs_mw vei e)).get? h1.objs.size = some (kxs_mw vei e) := Heap.get?_push_at rfl rfl
  have hns2 : (h1.push (kxs_mw vei e)).Ns L ms := by obtain ⟨oL, z1, z2, q, r⟩ := hns; exact ⟨oL, z1, z2, kp2 _ _ q, r⟩
  refine kxs_callWith (i := vei) (x := e) (by rw [hstar]; rfl) ?_
  rw [hstar]
  refine evalArgs_plain (spliced_cons (harg _ _ hns2 fun u tk => spliced_nil ⟨hU, ?_⟩))
  obtain ⟨n1, n2, n3, n4, n5, n6, n7, n8, n9, n10, n11, n12, n13, n14, n15, hC, hbm⟩ := X.ox.cls
  exact bound_run (kp2 _ _ (hK _ _ hC)) (kp2 _ _ hE) hU (by show 1 ≤ sizeLine; rw [sizeLine_eq]; omega) fun h2 t2 q1 q2 => hQ h2 t2 tk (fun b o nb z => q1 b o nb (kp2 b o z)) q2
end
/-! the texts that are told -/
def partB (xN : Str) : Expr → Bool
  | .Constant (.str c) _ _ => decide (c.length ≤ 200)
  | .FormattedValue (.Name x _) k none _ => decide (x = xN) && decide (k = -1)
  | _ => false
/-- what can be told within a text -/
def Tells (v : Value) : Prop := (∃ y t, v = .str y t ∧ y.length ≤ 1000) ∨ ∃ i t, v = .int i t ∧ i.natAbs < 10 ^ 18
theorem tells_log {i : Int} (h : i.natAbs < 10 ^ 18) : i.natAbs.log2 < 1920 := by
  by_cases z : i.natAbs = 0
  · rw [z]; decide
  · have : i.natAbs < 2 ^ 1920 := Nat.lt_of_lt_of_le h (by decide)
    exact (Nat.log2_lt z).mpr this
section
variable {prog : Program} {w : World} {A : Around} {E : Value → Shared → Prop}
theorem parts_run {xN : Str} {v : Value} {env : Env} {ms : Str → Option Value} (hk : env.scope.kind = .function) (hx : env.scope.names.lookup xN = some .local) (hd : (xN == ("__debug__" : Str)) = false) (hv : ms xN = some v) (ht : Tells v) {R : Str → Shared → Prop} :
    ∀ (es : List Expr) (acc : Str) (s : Shared), es.all (partB xN) = true → acc.length + 1000 * es.length ≤ 100000 → s.heap.Ns env.locals ms → (∀ out tk, out.length ≤ sizeLine → R out { s with toks := tk }) →
      Joins (model prog w) A E (evalEach es env) acc R s
  | [], acc, s, _, hl, _, k => by
    have e0 : evalEach [] env = [] := by first | rfl | simp [evalEach]
    rw [e0]
    exact k acc s.toks (by rw [sizeLine_eq]; omega)
  | e :: es, acc, s, ha, hl, hn, k => by
    have e0 : evalEach (e :: es) env = eval e env :: evalEach es env := by first | rfl | simp [evalEach]
    rw [e0]
    rw [List.all_cons, Bool.and_eq_true] at ha
    rw [List.length_cons] at hl
    have go : ∀ (y : Str) (tk : Tok) (tk2 : Nat), y.length ≤ 1000 → ∃ y' t', Value.str y tk = .str y' t' ∧ (acc ++ y').length ≤ sizeLine ∧ Joins (model prog w) A E (evalEach es env) (acc ++ y') R { s with toks := tk2 } := fun y tk tk2 hy => by
      have hz : (acc ++ y).length + 1000 * es.length ≤ 100000 := by rw [strLen_append]; omega
      exact ⟨y, tk, rfl, by rw [sizeLine_eq]; omega, parts_run hk hx hd hv ht es (acc ++ y) _ ha.2 hz hn fun out tk3 ho => k out tk3 ho⟩
    have h1 := ha.1
    unfold partB at h1
    split at h1
    · rename_i c j ps
      exact wpAny_Constant_str (go c _ _ (by have := of_decide_eq_true h1; omega))
    · rename_i x ps1 kc ps2
      rw [Bool.and_eq_true, decide_eq_true_eq, decide_eq_true_eq] at h1
      obtain ⟨ex, ek⟩ := h1
      subst ex ek
      refine wpAny_FormattedValue_plain (wpAny_Name (wpAny_loadName_local hk hx hn hv ?_) hd)
      rcases ht with ⟨y, t, rfl, hy⟩ | ⟨i, t, rfl, hi⟩
      · exact wpAny_formatField_str (go y t s.toks hy) (go y s.toks _ hy) (by rw [sizeLine_eq]; omega)
      · exact wpAny_formatField_int (tells_log hi) (go _ _ _ (by have := int_text_length_le10 (k := 18) (by decide) hi; rw [PySem.ofString_length]; omega))
    · cases h1
/-- the text's expression: a text, or one with the name's value in it -/
def argB (xN : Str) : Expr → Bool
  | .JoinedStr (e1 :: e2 :: es) _ => (e1 :: e2 :: es).all (partB xN) && decide (es.length ≤ 5)
  | .Constant (.str _) _ _ => true
  | _ => false
theorem arg_run {xN : Str} {v : Value} {env : Env} {ms : Str → Option Value} {arg : Expr} (ha : argB xN arg = true) (hk : env.scope.kind = .function) (hx : env.scope.names.lookup xN = some .local) (hd : (xN == ("__debug__" : Str)) = false) (hv : ms xN = some v) (ht : Tells v)
    {Q : Value → Shared → Prop} {s : Shared} (hn : s.heap.Ns env.locals ms) (k : ∀ u tk, Q u { s with toks := tk }) : wpAny (model prog w) A (eval arg env) Q E s := by
  unfold argB at ha
  split at ha
  · rw [Bool.and_eq_true, decide_eq_true_eq] at ha
    exact wpAny_JoinedStr (parts_run hk hx hd hv ht _ _ s ha.1 (by have : Str.empty.length = 0 := rfl; simp only [List.length_cons]; omega) hn fun out tk ho => ⟨ho, k _ _⟩)
  · exact wpAny_Constant_str (k _ _)
  · cases ha
theorem argC_run {env : Env} {x : Str} {j : Nat} {ps : Pos} {Q : Value → Shared → Prop} {s : Shared} (k : ∀ u tk, Q u { s with toks := tk }) : wpAny (model prog w) A (eval (.Constant (.str x) j ps) env) Q E s := wpAny_Constant_str (k _ _)

/-! the whole __init__ -/
theorem ce_star {arg : Expr} {env : Env} {xN : Str} (h : argB xN arg = true) : starEach [arg] env = [(false, eval arg env)] := by
  unfold argB at h
  split at h
  · rfl
  · rfl
  · cases h
theorem ce_ev {arg : Expr} {env : Env} {xN : Str} {p0 p1 p2 pos : Pos} (h : argB xN arg = true) (hl : (p2.endLine == pos.line) = true) : ∃ pl : Sem Bool, eval (.Call (.Attribute (.Call (.Name "super" p0) [] [] p1) "__init__" p2) [arg] [] pos) env = (do
      let ov ← attributeBase (.Call (.Name "super" p0) [] [] p1) "__init__" env (eval (.Call (.Name "super" p0) [] [] p1) env); standAt p2.atName
      let (f, first) ← holding [ov] (getMethod ov "__init__" pl); callWith pos f first (backTo pos (starEach [arg] env)) []) := by
  refine ⟨(do return (← importBound (.Call (.Name "super" p0) [] [] p1) env).getD true), ?_⟩
  rw [arm_eval_Call]
  have hform : methodCallForm ([arg].length + ([] : List Keyword).length) (backTo pos (starEach [arg] env)) (backToKw pos (keywordEach [] env)) = true := by rw [ce_star h]; rfl
  have hpos : methodCallPos true (.Call (.Name "super" p0) [] [] p1) env p2 pos = pure pos := by unfold methodCallPos; simp [hl]
  unfold methodCall
  rw [hform, hpos]
  simp only [pure_bind]
  rfl
theorem ns_lookup2 {a b : Str} {u v : Value} (hne : (b == a) = false) : (List.lookup a [(b, v), (a, u)] = some u) ∧ List.lookup b [(b, v), (a, u)] = some v := by
  refine ⟨?_, ?_⟩
  · rw [List.lookup_cons, show (a == b) = false from by rw [beq_eq_false_iff_ne] at hne ⊢; exact Ne.symm hne, List.lookup_cons, show (a == a) = true from beq_self_eq_true a]
  · rw [List.lookup_cons, show (b == b) = true from beq_self_eq_true b]
section
variable {prog : Program} {w : World} {A : Around} {hh : Heap} {gg : Array GenState} {dd : Drawn} {tt : Nat} {oo : OsState} {R : Result → Shared → Prop}
variable {K : Frag} {mg mb : Str → Option Value} {C fI cda cc e : Addr} {fd : FuncData} {nS xN fld : Str}
/-- __init__(self, x): super().__init__(text); self.f = x -/
theorem init1_run {arg : Expr} {p0 p1 p2 p3 p4 p5 p6 p7 p8 : Pos} {v : Value} {t0 : Addr} (X : XFn K prog C fI cda cc fd) (S : XSc prog mg nS fd) (hK : K.In hh) (hE : hh.get? e = some (eob C t0)) (heK : K.lookup e = none) (hlim : hh.NoLimit) (hroom : A.depth < recursionLimit)
    (hg : hh.Ns mainGlobals mg) (hb : hh.Ns builtinsNs mb) (hbv : mb "super" = some (.type "super")) (ha : argB xN arg = true) (hl : (p2.endLine == p3.line) = true)
    (hbody : fd.body = .stmts [.Expr (.Call (.Attribute (.Call (.Name "super" p0) [] [] p1) "__init__" p2) [arg] [] p3) p4, .Assign [.Attribute (.Name nS p5) fld p6] (.Name xN p7) p8])
    (hx : fd.scope.names.lookup xN = some .local) (hd : (xN == ("__debug__" : Str)) = false) (hdS : (nS == ("__debug__" : Str)) = false) (hne : (xN == nS) = false) (ht : Tells v) (hfld : findIn K (.ref C) fld = some none)
    (hbind : ∀ s : Shared, BindsTo s fd ⟨[.ref e, v], []⟩ [(nS, .ref e), (xN, v)])
    (hQ : ∀ h2 t2 tk dx, (∀ b o, b ≠ e → hh.get? b = some o → h2.get? b = some o) → hh.objs.size ≤ dx → dx ≠ e → h2.get? e = some { cls := .ref C, dict := some dx, data := .fields #[.ref t2, .none, .none, .none, .bool false, .none] } →
      h2.Ns1 dx (fun y => if y = fld then some v else none) → R (.ok (.ret .none)) ⟨h2, gg, dd, tk, oo⟩) :
    codeAny (model prog w) A (.call (.ref fI) ⟨[.ref e, v], []⟩) R ⟨hh, gg, dd, tt, oo⟩ := by
  obtain ⟨oc, od, osl, hf⟩ := X.fn
  refine ks_codeAny_call_defAt hroom (hK _ _ hf) rfl hlim (by rw [X.cd]; exact codeRec_of hK X.cdn) hbody (hbind _) S.nocell ?_ ?_ S.co S.gen S.kind
  · intro y hy
    rcases List.mem_cons.mp hy with rfl | hy
    · exact S.slf
    · rcases List.mem_cons.mp hy with rfl | hy
      · exact hx
      · cases hy
  · intro h1 hns kp
    have ens := ns_lookup2 (a := nS) (b := xN) (u := .ref e) (v := v) hne
    have hK1 := hK.keeps kp
    obtain ⟨pl, hev⟩ := ce_ev (arg := arg) (env := callEnv fd hh.objs.size fI) (p0 := p0) (p1 := p1) (pos := p3) ha hl
    have hint : interactive (callEnv fd hh.objs.size fI) = false := by unfold interactive; rw [show (callEnv fd hh.objs.size fI).scope = fd.scope from rfl, S.kind]; rfl
    refine ks_wpAt_execs_cons (ks_wpAt_Expr_any (hi := hint) (hs := rfl) (sup_run (L := hh.objs.size) X S hK1 hns ens.1 (kp _ _ hE) (hg.keeps kp) (hb.keeps kp) hbv (fun s2 Q2 hn2 k2 => arg_run (env := callEnv fd hh.objs.size fI) ha S.kind hx hd ens.2 ht hn2 k2) (ce_star ha) hev fun h2 t2 tk kp2 hE2 => ?_))
    have neL : hh.objs.size ≠ e := fun z => absurd (Heap.lt_size hE) (by rw [z]; exact Nat.lt_irrefl _)
    have kp3 : ∀ b o, b ≠ e → hh.get? b = some o → h2.get? b = some o := fun b o n z => kp2 b o n (kp b o z)
    have hns2 : h2.Ns hh.objs.size (fun y => List.lookup y [(xN, v), (nS, .ref e)]) := by obtain ⟨oL, z1, z2, q, r⟩ := hns; exact ⟨oL, z1, z2, kp2 _ _ neL q, r⟩
    obtain ⟨cdv, hcls, hmro, hhd⟩ := clsIn_ox X.ox
    have hK2 : K.In h2 := fun b o z => kp3 b o (fun y => by
      subst y
      rw [heK] at z
      cases z) (hK b o z)
    refine ks_wpAt_execs_cons (ks_wpAt_Assign_Attr (hs := rfl) (wpAt_of_wpAny (wpAny_Name (wpAny_loadName_local (v := v) S.kind hx hns2 ens.2 ?_) hd)))
    refine wpAny_Name (wpAny_loadName_local (v := .ref e) S.kind S.slf hns2 ens.1 ?_) hdS
    refine set_plain (C := C) (od := none) hK2 ⟨hE2, rfl, rfl, trivial⟩ X.ox.sa (HandSPX.exc_osa hK2 hE2 hcls hmro hhd hfld fun h3 tk3 dx k3 dn dne hE3 hn3 => ?_)
    refine wpAt_of_wpAny (wpAny_execs_nil (hQ h3 t2 tk3 dx (fun b o n z => k3 b o n (kp3 b o n z)) (Nat.le_trans (Nat.le_of_lt ?_) dn) dne hE3 hn3))
    obtain ⟨oL, _, _, q, _⟩ := hns2
    exact Heap.lt_size q
/-- __init__(self): super().__init__(text) -/
theorem init0_run {x : Str} {j : Nat} {pc p0 p1 p2 p3 p4 : Pos} {t0 : Addr} (X : XFn K prog C fI cda cc fd) (S : XSc prog mg nS fd) (hK : K.In hh) (hE : hh.get? e = some (eob C t0)) (hlim : hh.NoLimit) (hroom : A.depth < recursionLimit)
    (hg : hh.Ns mainGlobals mg) (hb : hh.Ns builtinsNs mb) (hbv : mb "super" = some (.type "super")) (hl : (p2.endLine == p3.line) = true)
    (hbody : fd.body = .stmts [.Expr (.Call (.Attribute (.Call (.Name "super" p0) [] [] p1) "__init__" p2) [.Constant (.str x) j pc] [] p3) p4])
    (hbind : ∀ s : Shared, BindsTo s fd ⟨[.ref e], []⟩ [(nS, .ref e)])
    (hQ : ∀ h2 t2 tk, (∀ b o, b ≠ e → hh.get? b = some o → h2.get? b = some o) → h2.get? e = some (eob C t2) → R (.ok (.ret .none)) ⟨h2, gg, dd, tk, oo⟩) :
    codeAny (model prog w) A (.call (.ref fI) ⟨[.ref e], []⟩) R ⟨hh, gg, dd, tt, oo⟩ := by
  obtain ⟨oc, od, osl, hf⟩ := X.fn
  have ha : argB "" (.Constant (.str x) j pc) = true := rfl
  refine ks_codeAny_call_defAt hroom (hK _ _ hf) rfl hlim (by rw [X.cd]; exact codeRec_of hK X.cdn) hbody (hbind _) S.nocell ?_ ?_ S.co S.gen S.kind
  · intro y hy
    rcases List.mem_cons.mp hy with rfl | hy
    · exact S.slf
    · cases hy
  · intro h1 hns kp
    obtain ⟨pl, hev⟩ := ce_ev (arg := .Constant (.str x) j pc) (env := callEnv fd hh.objs.size fI) (p0 := p0) (p1 := p1) (pos := p3) ha hl
    have hint : interactive (callEnv fd hh.objs.size fI) = false := by unfold interactive; rw [show (callEnv fd hh.objs.size fI).scope = fd.scope from rfl, S.kind]; rfl
    refine ks_wpAt_execs_cons (ks_wpAt_Expr_any (hi := hint) (hs := rfl) (sup_run (L := hh.objs.size) X S (hK.keeps kp) hns (by show List.lookup nS [(nS, _)] = _; rw [List.lookup_cons, beq_self_eq_true]) (kp _ _ hE) (hg.keeps kp) (hb.keeps kp) hbv
      (fun s2 Q2 hn2 k2 => argC_run k2) (ce_star ha) hev fun h2 t2 tk kp2 hE2 => wpAt_of_wpAny (wpAny_execs_nil (hQ h2 t2 tk (fun b o n z => kp2 b o n (kp b o z)) hE2))))
end
end
/-! the calls -/
/-- one field -/
structure XOne (K : Frag) (P : Program) (mg : Str → Option Value) (cn fld : Str) (C : Addr) : Prop where
  own : ∃ fI cda cc fd nS xN arg p0 p1 p2 p3 p4 p5 p6 p7 p8, XFn K P C fI cda cc fd ∧ XSc P mg nS fd ∧ argB xN arg = true ∧ (p2.endLine == p3.line) = true ∧
    fd.body = .stmts [.Expr (.Call (.Attribute (.Call (.Name "super" p0) [] [] p1) "__init__" p2) [arg] [] p3) p4, .Assign [.Attribute (.Name nS p5) fld p6] (.Name xN p7) p8] ∧
    fd.scope.names.lookup xN = some .local ∧ (xN == ("__debug__" : Str)) = false ∧ (nS == ("__debug__" : Str)) = false ∧ (xN == nS) = false ∧ ∀ (s : Shared) (a b : Value), BindsTo s fd ⟨[a, b], []⟩ [(nS, a), (xN, b)]
  at_ : mg cn = some (.ref C)
  fld : findIn K (.ref C) fld = some none
/-- no field -/
structure XNil (K : Frag) (P : Program) (mg : Str → Option Value) (cn : Str) (C : Addr) : Prop where
  own : ∃ fI cda cc fd nS x j pc p0 p1 p2 p3 p4, XFn K P C fI cda cc fd ∧ XSc P mg nS fd ∧ (p2.endLine == p3.line) = true ∧
    fd.body = .stmts [.Expr (.Call (.Attribute (.Call (.Name "super" p0) [] [] p1) "__init__" p2) [.Constant (.str x) j pc] [] p3) p4] ∧ ∀ (s : Shared) (a : Value), BindsTo s fd ⟨[a], []⟩ [(nS, a)]
  at_ : mg cn = some (.ref C)
def TellV (x : L2.V) : Prop := (∃ y : Str, x = .str y ∧ y.length ≤ 1000) ∨ ∃ i : Int, x = .int i ∧ i.natAbs < 10 ^ 18
theorem TellV.of {x : L2.V} {u : Value} (h : TellV x) (r : L2.RelV x u) : Tells u := by
  rcases h with ⟨y, rfl, hy⟩ | ⟨i, rfl, hi⟩
  · obtain ⟨t, rfl⟩ := r
    exact .inl ⟨y, t, rfl, hy⟩
  · obtain ⟨t, rfl⟩ := r
    exact .inr ⟨i, t, rfl, hi⟩
section
open L2
variable {X : Cx} {cn fld : Str} {C : Addr} {k : Nat}
theorem super_boot : bootBuiltins ("super" : Str) = some (.type "super") := by first | rfl | decide +kernel
theorem pmk_one {e : Expr} {te : TE} {p pos : Pos} (T : XOne X.K X.prog X.mg cn fld C) (hr : Room (k + 1) X.A) (hg : Gl X cn) (hs : starEach [e] X.env = (false, eval e X.env) :: starEach [] X.env) (hdb : (cn == ("__debug__" : Str)) = false) (he : PE X e te) :
    PMk X (.Call (.Name cn p) [e] [] pos) (fun σ H Q => te σ H fun x H1 => TellV x ∧ ∀ dx, H1 dx = none → Q (.ref C) (some dx) (upd H1 dx (.xd [(fld, x)]))) := by
  intro pins s σ H Q I h
  obtain ⟨fI, cda, cc, fd, nS, xN, arg, p0, p1, p2, p3, p4, p5, p6, p7, p8, XF, XS, harg, hl, hbody, hx, hd, hdS, hne, hbind⟩ := T.own
  obtain ⟨n1, n2, n3, n4, n5, n6, n7, n8, n9, n10, n11, n12, n13, n14, n15, hC, hbm⟩ := XF.ox.cls
  refine wpAny_Call_Name_kw (ld_glob I hg T.at_ ?_ hdb)
  refine callWith_K (h₀ := X.base) I.ok.mod.kin XF.ox.kC ?_ hs (by rfl)
  rw [hs]
  show wpAny _ _ (spliced ((false, eval e X.env) :: backTo pos (starEach [] X.env))) _ _ s
  refine spliced_cons (thn (he.run pins s σ H _ I h) fun u s1 ⟨x, H1, I1, rx, hT, hq⟩ => spliced_nil ⟨I1.kIn, ?_⟩)
  show wpAny _ _ (call (.ref C) [u]) _ _ _
  obtain ⟨mb, hbns, hbv⟩ := I1.ok.mod.blt
  have hbns1 := hbns.keeps I1.bk
  have hg1 := I1.ok.mod.glob.keeps I1.bk
  have hlim := I1.nolimit
  have hK := I1.kIn
  have bare := I1.bare
  obtain ⟨hp, g, dr, tk, os⟩ := s1
  have kk : ∀ b o, hp.get? b = some o → ((hp.push (kdv_tup [u])).push (HandSPX.excO C hp.objs.size)).get? b = some o := fun b o z => Heap.get?_push_of_some _ (Heap.get?_push_of_some _ z)
  have hE : ((hp.push (kdv_tup [u])).push (HandSPX.excO C hp.objs.size)).get? (hp.objs.size + 1) = some (eob C hp.objs.size) := by heap_get
  have old : ∀ {b : Addr} {o : Obj}, hp.get? b = some o → b ≠ hp.objs.size + 1 := fun {b o} z y => absurd (Heap.lt_size z) (by rw [y]; exact Nat.not_lt.mpr (Nat.le_succ _))
  have heK : X.K.lookup (hp.objs.size + 1) = none := by
    cases z : X.K.lookup (hp.objs.size + 1) with
    | none => rfl
    | some o => exact absurd rfl (old (hK _ _ z))
  refine wpAny_call (HandSPX.call_own F.excBase_ValueError (fun Y => HandSPX.refsVE_contains Y n5 hbm) (hK _ _ hC) (looks_findIn hK XF.iC) (fun self => bind_fn hK self XF.tI) (by show 1 ≤ sizeLine; rw [sizeLine_eq]; omega) ?_)
  refine init1_run XF XS (hK.keeps kk) hE heK (hlim.keeps kk) (hr.make C [u] []).depth (hg1.keeps kk) (hbns1.keeps kk) ((hbv _ (by decide)).trans super_boot) harg hl hbody hx hd hdS hne (hT.of rx) T.fld (fun s => hbind s _ _) fun h2 t2 tk2 dx k2 hdx dne hE2 hns2 => ?_
  have hdx0 : hp.objs.size ≤ dx := Nat.le_trans (by rw [Heap.size_push, Heap.size_push]; omega) hdx
  have hn1 : H1 dx = none := I1.hok.fresh hdx0
  have hna : H1 (hp.objs.size + 1) = none := I1.hok.fresh (Nat.le_succ _)
  obtain ⟨G, g1, g2⟩ := restrict h2 fun b => decide (b ≠ hp.objs.size + 1)
  have gk : ∀ b, b ≠ hp.objs.size + 1 → G.get? b = h2.get? b := fun b hb => g1 b (decide_eq_true hb)
  have ge : G.get? (hp.objs.size + 1) = none := g2 _ (by simp)
  obtain ⟨oD, es, ep, hoD, hrest⟩ := hns2
  have J := I1.laid (t' := tk2) (a := dx) (o := .xd [(fld, x)]) (h' := G) (fun b o z => by rw [gk b (old z)]; exact k2 b o (old z) (kk b o z)) hdx0
    ⟨_, ⟨oD, es, ep, by rw [gk dx dne]; exact hoD, hrest⟩, fun f => by
      show RelO (List.lookup f [(fld, x)]) (if f = fld then some u else none)
      by_cases ef : f = fld
      · subst ef
        rw [if_pos rfl, List.lookup_cons, beq_self_eq_true]
        exact rx
      · rw [if_neg ef, List.lookup_cons, show (f == fld) = false from beq_eq_false_iff_ne.mpr ef]
        exact True.intro⟩
  refine ⟨rfl, ?_⟩
  refine ⟨hp.objs.size + 1, _, _, _, _, .ref C, some dx, rfl, J, fun b o z => ?_, ge, hE2, ⟨rfl, rfl⟩, rfl, rfl, ?_, rfl, bare, raises_own XF.ox.exC XF.ox.tyC, hq dx hn1⟩
  · by_cases hb : b = hp.objs.size + 1
    · rw [hb, ge] at z; cases z
    · exact (gk b hb).symm.trans z
  · rw [upd_ne (Ne.symm dne)]
    exact hna
theorem pmk_nil {p pos : Pos} (T : XNil X.K X.prog X.mg cn C) (hr : Room (k + 1) X.A) (hg : Gl X cn) (hdb : (cn == ("__debug__" : Str)) = false) : PMk X (.Call (.Name cn p) [] [] pos) (fun _ H Q => Q (.ref C) none H) := by
  intro pins s σ H Q I1 hq
  obtain ⟨fI, cda, cc, fd, nS, x, j, pc, p0, p1, p2, p3, p4, XF, XS, hl, hbody, hbind⟩ := T.own
  obtain ⟨n1, n2, n3, n4, n5, n6, n7, n8, n9, n10, n11, n12, n13, n14, n15, hC, hbm⟩ := XF.ox.cls
  refine wpAny_Call_Name_kw (ld_glob I1 hg T.at_ ?_ hdb)
  refine callWith_K0 I1.kIn XF.ox.kC ?_
  show wpAny _ _ (call (.ref C) []) _ _ _
  obtain ⟨mb, hbns, hbv⟩ := I1.ok.mod.blt
  have hbns1 := hbns.keeps I1.bk
  have hg1 := I1.ok.mod.glob.keeps I1.bk
  have hlim := I1.nolimit
  have hK := I1.kIn
  have bare := I1.bare
  obtain ⟨hp, g, dr, tk, os⟩ := s
  have kk : ∀ b o, hp.get? b = some o → ((hp.push (kdv_tup [])).push (HandSPX.excO C hp.objs.size)).get? b = some o := fun b o z => Heap.get?_push_of_some _ (Heap.get?_push_of_some _ z)
  have hE : ((hp.push (kdv_tup [])).push (HandSPX.excO C hp.objs.size)).get? (hp.objs.size + 1) = some (eob C hp.objs.size) := by heap_get
  have old : ∀ {b : Addr} {o : Obj}, hp.get? b = some o → b ≠ hp.objs.size + 1 := fun {b o} z y => absurd (Heap.lt_size z) (by rw [y]; exact Nat.not_lt.mpr (Nat.le_succ _))
  refine wpAny_call (HandSPX.call_own F.excBase_ValueError (fun Y => HandSPX.refsVE_contains Y n5 hbm) (hK _ _ hC) (looks_findIn hK XF.iC) (fun self => bind_fn hK self XF.tI) (Nat.zero_le _) ?_)
  refine init0_run XF XS (hK.keeps kk) hE (hlim.keeps kk) (hr.make C [] []).depth (hg1.keeps kk) (hbns1.keeps kk) ((hbv _ (by decide)).trans super_boot) hl hbody (fun s => hbind s _) fun h2 t2 tk2 k2 hE2 => ?_
  have hna : H (hp.objs.size + 1) = none := I1.hok.fresh (Nat.le_succ _)
  obtain ⟨G, g1, g2⟩ := restrict h2 fun b => decide (b ≠ hp.objs.size + 1)
  have gk : ∀ b, b ≠ hp.objs.size + 1 → G.get? b = h2.get? b := fun b hb => g1 b (decide_eq_true hb)
  have ge : G.get? (hp.objs.size + 1) = none := g2 _ (by simp)
  have J := I1.kept (t' := tk2) (h' := G) fun b o z => by rw [gk b (old z)]; exact k2 b o (old z) (kk b o z)
  refine ⟨rfl, hp.objs.size + 1, _, _, _, _, .ref C, none, rfl, J, fun b o z => ?_, ge, hE2, ⟨rfl, rfl⟩, rfl, rfl, hna, rfl, bare, raises_own XF.ox.exC XF.ox.tyC, hq⟩
  by_cases hb : b = hp.objs.size + 1
  · rw [hb, ge] at z; cases z
  · exact (gk b hb).symm.trans z
end
end Xo
end Pl

set_option maxHeartbeats 4000000
/-! try: several clauses, each with a name or without one -/
namespace L2
open PySem PySem.Spec PyProof.Rows
namespace Tr
abbrev TsE := Addr → Value → Option Addr → TS
/-- the ends of a suite whose name goes -/
def unE (D : Ends) : Option Nat → Ends
  | none => D
  | some i => { nx := fun σ H => D.nx (σ.set i none) H, rt := D.rt, bk := fun σ H => D.bk (σ.set i none) H, ct := fun σ H => D.ct (σ.set i none) H }
def putE (σ : St) (i : Option Nat) (a : Addr) : St := match i with
  | none => σ
  | some i => σ.set i (some (.ref a))
/-- what the clauses wish, one behind the other -/
def wishes (K : PySem.W.Frag) (W0 : WX) (D : Ends) : List (Value × Option Nat × TsE) → WX
  | [] => W0
  | (c, oi, ts) :: r => fun cls d σ H => ∃ b, PySem.W.exmOne K cls c = some b ∧ (b = true → ∀ a, H a = none → ts a cls d (unE D oi) (putE σ oi a) H) ∧ (b = false → wishes K W0 D r cls d σ H)
/-- a clause's name and its slot -/
def NameAt (X : Cx) : Option Str → Option Nat → Prop
  | none, none => True
  | some n, some i => X.N[i]? = some n ∧ X.env.kindOf n = some .local
  | _, _ => False
inductive Clauses (X : Cx) : List ExceptHandler → List (Value × Option Nat × TsE) → Prop
  | nil : Clauses X [] []
  | cons {x : Str} {n : Option Str} {oi : Option Nat} {c : Value} {ts : TsE} {st0 : Stmt} {sts : List Stmt} {np hp : Pos} {hds : List ExceptHandler} {l : List (Value × Option Nat × TsE)} (hc : Names X x c) (hn : NameAt X n oi)
      (hsu : ∀ (a : Addr) (oe : Obj) (cls : Value) (d : Option Addr) (pn : List (Addr × Obj)), Zc cls d oe → (∃ vs, oe.data = .fields vs) → PSs (X.suite a ((a, oe) :: pn)) (st0 :: sts) (ts a cls d)) (r : Clauses X hds l) :
      Clauses X (.ExceptHandler (some (.Name x np)) n (st0 :: sts) hp :: hds) ((c, oi, ts) :: l)
section
variable {X : Cx} {body : List Stmt} {h0 : ExceptHandler} {hds : List ExceptHandler} {l : List (Value × Option Nat × TsE)} {pos : Pos} {tb : WX → TS} {W0 : WX}
theorem ps_clauses (hN : X.N.Nodup) (hst : X.stack = X.env :: X.outer) (hfr0 : X.env.frame = some X.env.locals) (tk : Takes X W0)
    (hb : ∀ (W : WX) (pn : List (Addr × Obj)) (xe : Value → Shared → Prop), Takes (X.tr pn xe) W → PassesOwn (model X.prog X.w) X.A X.env xe → PSs (X.tr pn xe) body (tb W))
    (hcl : Clauses X (h0 :: hds) l) : PS X (.Try body (h0 :: hds) [] [] pos) (fun D σ H => tb (wishes X.K W0 D l) D σ H) := by
  refine ⟨fun pins s σ H D I hh => ?_⟩
  have okX := I.ok
  have hframes : X.A.frames = some (X.env :: X.outer) := by rw [okX.frames, hst]
  refine wpAny_Try_except (wpAny_mono ((hb (wishes X.K W0 D l) (X.pn ++ pins) (fun er s1 => wpAny (model X.prog X.w) X.A (noteFrame er X.env) (fun _ s2 => wpAny (model X.prog X.w) X.A (setFlight er none) (fun _ s3 =>
    wpAny (model X.prog X.w) X.A (handleBy er X.env (h0 :: hds)) (SP X pins D) X.xe s3) X.xe s2) X.xe s1) (fun u s' xx => ?_) PassesOwn.looking).run [] s σ H D (I.toTry _) hh) (fun fl s1 hsp => ?_) (fun er s1 he => he))
  · obtain ⟨ea, B, sI, pinsB, σB, HB, cls, dv, rfl, JB, notB, upB, skyB, na, osB, agB, wq⟩ := xx
    have J : Inv X pins σB HB sI := JB.ofTry okX
    have skyX : Sky B (X.env :: X.outer) ea (Zc cls dv) X.env.locals s'.heap := by rw [← hst]; exact skyB
    show wpAny (model X.prog X.w) X.A (noteFrame (.ref ea) X.env) _ _ _
    refine Sky.land Zc.steady hframes hfr0 skyX fun hL flL upL => ?_
    have JL : Inv X pins σB HB { s' with heap := hL } := J.landed notB flL.1 (upB.trans upL) osB agB
    obtain ⟨oeL, vsL, heL, hzL, hdL⟩ := flL.there
    have nfr : ea ∉ frs (X.env :: X.outer) := fun hm => by
      obtain ⟨_, o', e', hnf⟩ := flL.2.2.1.mem hm
      rw [heL] at e'; cases e'; exact hnf _ hdL
    have neL : ea ≠ X.env.locals := fun z => nfr (List.mem_filterMap.mpr ⟨X.env, List.mem_cons_self, by rw [hfr0, z]⟩)
    have neF : ea ∉ X.fs := fun hm => by
      obtain ⟨en, hen, q⟩ := List.mem_filterMap.mp hm
      exact nfr (List.mem_filterMap.mpr ⟨en, List.mem_cons_of_mem _ hen, q⟩)
    have SL := JL.suite heL hdL na neL neF
    have go : ∀ {hs : List ExceptHandler} {l' : List (Value × Option Nat × TsE)}, Clauses X hs l' → wishes X.K W0 D l' cls dv σB HB → wpAny (model X.prog X.w) X.A (handleBy (.ref ea) X.env hs) (SP X pins D) X.xe { s' with heap := hL } := by
      intro hs l' hk
      induction hk with
      | nil =>
        intro wq
        refine wpAny_handleBy_nil ?_
        obtain ⟨z1, z2, z3, oe, vs, Tb, oT, ts', he, hz, hd, h1, hr⟩ := id flL
        unfold PySem.passOn
        refine wpAny_bind (wpAny_field he hd h1 ?_); rw [if_neg (show ¬ ((Value.ref Tb == Value.none) = true) from by simp)]
        have up : wpAny (model X.prog X.w) X.A (setFlight (.ref ea) X.env.frame) (fun _ s4 => wpAny (model X.prog X.w) X.A (throw (.ref ea) : Sem Flow) (SP X pins D) X.xe s4) X.xe { s' with heap := hL } := by
          rw [hfr0]
          refine HandSPX.setFlight_upZ flL fun h4 hh4 up4 => wpAny_throw (tk _ _ ⟨ea, B, sI, pins, σB, HB, cls, dv, rfl, J, notB, (upB.trans upL).trans up4, .inr (.inr (by rw [hst]; exact hh4)), na, osB, agB, wq⟩)
        first
          | exact wpAny_bind (wpAny_pure (wpAny_bind up))
          | exact wpAny_bind up
      | @cons x n oi c ts st0 sts np hp hds2 l2 hc hn hsu r ih =>
        intro wq
        obtain ⟨b, hb1, hyes, hno⟩ := wq
        refine wpAny_handleBy_cons (codeAny_handlers_test ?_) (by intro q; cases q)
        have LT : PySem.W.Looks (model X.prog X.w) hL (typeOf (.ref ea)) cls := fun A Q E s k q => wpAny_typeOf_ref (k _ _ heL) (by rw [hzL.1]; exact q)
        have LM := PySem.W.exm_one (M := model X.prog X.w) (JL.kIn) LT hb1
        have clsName : ∀ {Q : Value → Shared → Prop} {E : Value → Shared → Prop}, Q c { s' with heap := hL } → wpAny (model X.prog X.w) (X.A.mark (some (.ref ea))) (eval (.Name x np) X.env) Q E { s' with heap := hL } := fun {Q E} q => by
          obtain ⟨hg, hdbg, hm | ⟨hm, hv, hnn⟩⟩ := hc
          · exact ld_glob (X := X.suite ea ((ea, oeL) :: (X.pn ++ pins))) SL hg hm q hdbg
          · exact ld_blt (X := X.suite ea ((ea, oeL) :: (X.pn ++ pins))) SL hg hm hv q hnn hdbg
        refine clsName (LM.here ?_)
        cases b with
        | false => exact show wpAny _ X.A (handleBy (.ref ea) X.env hds2) _ _ _ from ih (hno rfl)
        | true =>
          cases n with
          | none =>
            cases oi with
            | some i => exact hn.elim
            | none =>
              refine codeAny_handlers_suite (HandSPX.lands_againZ flL fun h4 fl4 up4 => ?_)
              have J4 : Inv X pins σB HB { s' with heap := h4 } := J.landed notB fl4.1 ((upB.trans upL).trans up4) osB agB
              obtain ⟨oe4, vs4, he4, hz4, hd4⟩ := fl4.there
              refine wpAny_mono ((hsu ea oe4 cls dv (X.pn ++ pins) hz4 ⟨_, hd4⟩).run [] _ _ HB _ (J4.suite he4 hd4 na neL neF) (hyes rfl ea na)) (fun f s6 hsp => ?_) (fun _ _ z => False.elim z)
              cases f with
              | next => obtain ⟨σ6, H6, S6, q6⟩ := hsp; exact ⟨_, _, S6.unsuite okX, q6⟩
              | brk => obtain ⟨σ6, H6, S6, q6⟩ := hsp; exact ⟨_, _, S6.unsuite okX, q6⟩
              | cont => obtain ⟨σ6, H6, S6, q6⟩ := hsp; exact ⟨_, _, S6.unsuite okX, q6⟩
              | ret u => obtain ⟨v6, σ6, H6, S6, r6, q6⟩ := hsp; exact ⟨_, _, _, S6.unsuite okX, r6, q6⟩
          | some n =>
            cases oi with
            | none => exact hn.elim
            | some i =>
              obtain ⟨hi, hln⟩ := hn
              refine codeAny_handlers_suite_as (HandSPX.lands_againZ flL fun h4 fl4 up4 => ?_)
              have J4 : Inv X pins σB HB { s' with heap := h4 } := J.landed notB fl4.1 ((upB.trans upL).trans up4) osB agB
              obtain ⟨oe4, vs4, he4, hz4, hd4⟩ := fl4.there
              have S4 := J4.suite he4 hd4 na neL neF
              refine store_ok (X := X.suite ea ((ea, oe4) :: (X.pn ++ pins))) (v := .ref ea) S4 hN hi (.inl hln) rfl (fun s5 S5 => ?_) (.inr hln)
              refine wpAny_mono ((hsu ea oe4 cls dv (X.pn ++ pins) hz4 ⟨_, hd4⟩).run [] s5 _ HB _ S5 (hyes rfl ea na)) (fun f s6 hsp => ?_) (fun _ _ z => False.elim z)
              have lost : ∀ {σ6 : St} {H6 : Hp} {Q : Shared → Prop}, Inv (X.suite ea ((ea, oe4) :: (X.pn ++ pins))) [] σ6 H6 s6 → (∀ s7, Inv X pins (σ6.set i none) H6 s7 → Q s7) →
                  wpAny (model X.prog X.w) X.A (do bindName X.env n .none; unbindBehindTheSuite X.env n hp) (fun _ s7 => Q s7) X.xe s6 := fun {σ6 H6 Q} S6 hq => gone_ok (S6.unsuite okX) hN hi hln hq
              cases f with
              | next => obtain ⟨σ6, H6, S6, q6⟩ := hsp; exact lost S6 fun s7 J7 => ⟨_, _, J7, q6⟩
              | brk => obtain ⟨σ6, H6, S6, q6⟩ := hsp; exact lost S6 fun s7 J7 => ⟨_, _, J7, q6⟩
              | cont => obtain ⟨σ6, H6, S6, q6⟩ := hsp; exact lost S6 fun s7 J7 => ⟨_, _, J7, q6⟩
              | ret u => obtain ⟨v6, σ6, H6, S6, r6, q6⟩ := hsp; exact lost S6 fun s7 J7 => ⟨_, _, _, J7, r6, q6⟩
    exact go hcl wq
  · cases fl with
    | next => obtain ⟨σ1, H1, J1, q⟩ := hsp; exact wpAny_execs_nil ⟨σ1, H1, J1.ofTry okX, q⟩
    | brk => obtain ⟨σ1, H1, J1, q⟩ := hsp; exact ⟨σ1, H1, J1.ofTry okX, q⟩
    | cont => obtain ⟨σ1, H1, J1, q⟩ := hsp; exact ⟨σ1, H1, J1.ofTry okX, q⟩
    | ret u => obtain ⟨v1, σ1, H1, J1, r, q⟩ := hsp; exact ⟨v1, σ1, H1, J1.ofTry okX, r, q⟩
end
end Tr
end L2

set_option maxHeartbeats 4000000
/-! errors: calls that may let one out, raise -/
namespace Pl
open PySem L2
/-- what is wanted of an error, where it lies -/
def ContX (K : Kw) (H : Hp) (M : Hm) (Eu : XU) (E : XK) : Prop := ∀ c d H' M', Stp H M H' M' → Sim K H' M' → Eu c d M' → E (.ref (cad K c)) d H'
/-- the promise of a def that may let an error out -/
def spX (k : Fg × World) (g : List U → Hm → QU → XU → Prop) : Sp := fun vs H Q E => ∃ (z : Anc) (us : List U) (M : Hm) (Qu : QU) (Eu : XU), Sim (k.1, k.2, z) H M ∧ RelL (k.1, k.2, z) H vs us ∧ g us M Qu Eu ∧ Cont (k.1, k.2, z) H M Qu Q ∧ ContX (k.1, k.2, z) H M Eu E
theorem fn0_of {P : Program} {wd : World} {K : Fg} {mg : Str → Option Value} {base : Heap} {k : Nat} {f : Addr} {fd : FuncData} {ps : List Str} {g : List U → Hm → QU → XU → Prop} (z : Anc) (F : FnOk P wd K mg base (L2.CX P wd) k f fd ps (spX (K, wd) g)) :
    FnOk P wd K mg base CX0 k f fd ps (spOf (K, wd, z) (fun us M Q => g us M Q fun _ _ _ => False)) := by
  refine ⟨fun vs H Q E ⟨us, M, Qu, S, r, h, c⟩ => F.len vs H Q (fun _ _ _ => False) ⟨z, us, M, Qu, _, S, r, h, c, fun _ _ _ _ _ _ q => q.elim⟩, fun A outer s H args us vs Q E hr e0 b rv ⟨us', M, Qu, S, r, h, c⟩ => ?_⟩
  refine codeAny_mono (F.run A outer s H args us vs Q (fun _ _ _ => False) hr e0 b rv ⟨z, us', M, Qu, _, S, r, h, c, fun _ _ _ _ _ _ q => q.elim⟩) fun r s' q => ?_
  cases r with
  | error e =>
    obtain ⟨_, _, _, _, _, _, _, _, _, _, _, _, q⟩ := q
    exact q.elim
  | ok fl => cases fl <;> exact q
/-- the wish at V's level -/
def wxU (K : Kw) (xc : Str → Option Addr → SU → Hm → Prop) : WX := fun cls d σ H => ∃ c σu M, cls = .ref (cad K c) ∧ RelS K H σ σu ∧ Sim K H M ∧ xc c d σu M
section
variable {X : Cy}
theorem se_callX {k : Nat} {f : Addr} {fd : FuncData} {ps : List Str} {x : Str} {es : List Expr} {g : WL} {c : List U → Hm → QU → XU → Prop} {xc : Str → Option Addr → SU → Hm → Prop} {p pos : Pos} (F : FnOk X.prog X.w X.K X.mg X.base (L2.CX X.prog X.w) k f fd ps (spX (X.K, X.w) c)) (hr : Room k X.A) (hg : Gl X x) (hm : X.mg x = some (.ref f))
    (hk : PySem.W.keepIn X.K (.ref f) = true) (hb : Binds X.K fd ps []) (tk : Takes X (wxU (kwX X) xc)) (hdb : (x == ("__debug__" : Str)) = false) (hne : es ≠ []) (hs : es.all (fun e => !isStar e) = true) (h : SA X g es) :
    SE1 X (fun σ M Q => g σ M fun xs M1 => c xs M1 Q fun cn d M2 => xc cn d σ M2) (.Call (.Name x p) es [] pos) := by
  obtain ⟨t, pt, q⟩ := h
  cases es with
  | nil => exact absurd rfl hne
  | cons e es =>
    have hs2 : isStar e = false ∧ es.all (fun e => !isStar e) = true := by
      rw [List.all_cons, Bool.and_eq_true] at hs
      exact ⟨by simpa using hs.1, hs.2⟩
    refine ⟨_, pe_callS F hr hg hm hk hb (fun σ => L2.passAt tk σ) pt hdb (star_cons hs2.1) (star_plain hs2.2), fun σ H σu M Qu Q rs S hf ct => ?_⟩
    refine q σ H σu M _ _ rs S hf fun vs H1 us M1 st S1 r1 hq => ?_
    exact ⟨X.z, us, M1, Qu, _, S1, r1, hq, ct.tr S st, fun cn d H' M' st' S' hx => ⟨cn, σu, M', rfl, rs.stp S (st.trans S st'), S', hx⟩⟩
theorem tell_of {v : V} {u : U} {K : Kw} {H : Hp} (h : tellU u) (r : Rel K H v u) : Xo.TellV v := by
  cases r <;> first | exact h.elim | skip
  · exact .inr ⟨_, rfl, h⟩
  · exact .inl ⟨_, rfl, h⟩
theorem ss_raise1 {cn fld : Str} {k : Nat} {e : Expr} {f : WE} {xc : Str → Option Addr → SU → Hm → Prop} {p p2 pos : Pos} (hc : X.calm = true) (tk : Takes X (wxU (kwX X) xc)) (T : Xo.XOne X.K X.prog X.mg cn fld (cad X.K cn)) (hr : Room (k + 1) X.A) (hg : Gl X cn) (hs : isStar e = false)
    (hdb : (cn == ("__debug__" : Str)) = false) (h : SE1 X f e) : SS X (fun D σ M => f σ M fun x M1 => tellU x ∧ ∀ d, M1 d = none → xc cn (some d) σ (um M1 d (.exd [(fld, x)]))) (.Raise (some (.Call (.Name cn p) [e] [] p2)) none pos) := by
  obtain ⟨t, pt, q⟩ := h
  refine ⟨_, ps_raise hc tk (Xo.pmk_one T hr hg (star_cons hs) hdb pt), fun D Du σ H σu M rs S hf c => ?_⟩
  refine q σ H σu M _ _ rs S hf fun v H1 u M1 st S1 r hq => ⟨tell_of hq.1 r, fun dx hdx => ?_⟩
  have st2 : Stp H1 M1 (upd H1 dx (.xd [(fld, v)])) (um M1 dx (.exd [(fld, u)])) := Stp.new S1 hdx
  have S2 : Sim (kwX X) (upd H1 dx (.xd [(fld, v)])) (um M1 dx (.exd [(fld, u)])) := S1.new (m := .exd [(fld, u)]) hdx ⟨[(fld, v)], upd_same, .cons ⟨rfl, r.stp S1 st2⟩ .nil⟩
  exact ⟨cn, σu, _, rfl, rs.stp S (st.trans S st2), S2, hq.2 dx (S1.fr hdx)⟩
theorem ss_raise0 {cn : Str} {k : Nat} {xc : Str → Option Addr → SU → Hm → Prop} {p p2 pos : Pos} (hc : X.calm = true) (tk : Takes X (wxU (kwX X) xc)) (T : Xo.XNil X.K X.prog X.mg cn (cad X.K cn)) (hr : Room (k + 1) X.A) (hg : Gl X cn)
    (hdb : (cn == ("__debug__" : Str)) = false) : SS X (fun _ σ M => xc cn none σ M) (.Raise (some (.Call (.Name cn p) [] [] p2)) none pos) :=
  ⟨_, ps_raise hc tk (Xo.pmk_nil T hr hg hdb), fun D Du σ H σu M rs S hf c => ⟨cn, σu, M, rfl, rs, S, hf⟩⟩
end
end Pl

set_option maxHeartbeats 4000000
/-! the check of a text against the small syntax, and what it is worth -/
namespace Pl
open PySem L2
structure Ck where
  sc : Scope
  N : List Str
  T : List Df
  cs : List Cd := []
  ks : List (Str × Int) := []
  ss : List (Str × Str) := []
  ts : List (Str × List Int) := []
  ds : List (Str × U) := []
  /-- errors may leave from here -/
  xs : Bool := false
  /-- error classes: the name, the field -/
  xcl : List (Str × Option Str) := []
  /-- isinstance: the classes asked for, those under them, those not -/
  isxs : List (List Str × List Str × List Str) := []
  /-- except: the class, those under it, those not -/
  hds : List (Str × List Str × List Str) := []
  /-- error classes that are named -/
  xnm : List Str := []
def visB (sc : Scope) (x : Str) : Bool := match sc.names.lookup x with
  | some .local => true
  | some .cell => true
  | some .free => true
  | _ => false
def locB (sc : Scope) (x : Str) : Bool := match sc.names.lookup x with
  | some .local => true
  | some .cell => true
  | _ => false
def ownB (sc : Scope) (x : Str) : Bool := match sc.names.lookup x with
  | some .local => true
  | _ => false
def glB (sc : Scope) (x : Str) : Bool := match sc.names.lookup x with
  | some .globalImplicit => true
  | _ => false
def okN (x : Str) : Bool := !(x == ("__debug__" : Str)) && !(x == ("__classdict__" : Str)) && !(x == ("__name__" : Str))
def varB (c : Ck) (i : Nat) (x : Str) : Bool := decide (c.N[i]? = some x) && visB c.sc x && okN x
def bfnN : Bfn → Str
  | .len => "len" | .list => "list" | .tuple => "tuple" | .int => "int" | .abs => "abs" | .max => "max" | .min => "min" | .sorted => "sorted" | .sum => "sum" | .all => "all" | .any => "any" | .tupd => "tuple" | .dict => "dict" | _ => ""
def bltNames : List Str := ["len", "list", "tuple", "int", "abs", "max", "min", "range", "isinstance", "str", "bool", "sorted", "enumerate", "sum", "all", "any", "zip", "set", "dict", "reversed", "super", "ValueError"]
def isKeysE : E → Bool
  | .iKeys _ => true
  | _ => false
def isEn : E → Bool
  | .iEnum _ => true
  | .iZip _ _ => true
  | _ => false
def isTupE : Expr → Bool
  | .Tuple _ _ _ => true
  | _ => false
/-- enumerate wants a target of several names -/
def enOk (it : E) (g : Expr) : Bool := !isEn it || isTupE g
def ckTg (tg : Tg) (N : List Str) (ok : Str → Bool) : Expr → Bool
  | .Name x _ => (match tg with | .one i => decide (N[i]? = some x) && ok x | _ => false)
  | .Tuple es _ _ => (match tg with | .many is => namesB N ok is es | _ => false)
  | _ => false
def gFn (c : Ck) (f n : Nat) (x : Str) : Bool := (match c.T[f]? with | some d => decide (d.cls = none) && (decide (d.name = x) && decide (d.ps.length = n)) | none => false) && (glB c.sc x && okN x)
def gBl (c : Ck) (n x : Str) : Bool := decide (x = n) && (glB c.sc x && okN x)
def hasMeth (c : Ck) (cn m : Str) (f : Nat) : Bool := c.cs.any fun cd => decide (cd.name = cn) && cd.mets.any fun p => decide (p = (m, f))
def hasProp (c : Ck) (cn m : Str) (f : Nat) : Bool := c.cs.any fun cd => decide (cd.name = cn) && cd.prps.any fun p => decide (p = (m, f))
def hasInit (c : Ck) (cn : Str) (f : Nat) : Bool := c.cs.any fun cd => decide (cd.name = cn) && decide (cd.init = some f)
def hasFld (c : Ck) (cn f : Str) : Bool := c.cs.any fun cd => decide (cd.name = cn) && cd.flds.any fun g => decide (g = f)

mutual
def ckE : E → Ck → Expr → Bool
  | .var i, c, e => (match e with | .Name x _ => varB c i x | _ => false)
  | .int i, _, e => (match e with | .Constant (.int j) _ _ => decide (i = j) | _ => false)
  | .str i, _, e => (match e with | .Constant (.str j) _ _ => decide (i = j) | _ => false)
  | .bl i, _, e => (match e with | .Constant (.bool j) _ _ => decide (i = j) | _ => false)
  | .non, _, e => (match e with | .Constant .none _ _ => true | _ => false)
  | .nil, _, _ => false
  | .cons _ _, _, _ => false
  | .tup es, c, e => (match e with | .Tuple xs _ _ => ckL es c xs | _ => false)
  | .dtup es, c, e => (match e with | .Tuple xs _ _ => ckL es c xs | _ => false)
  | .lst es, c, e => (match e with | .List xs _ => ckL es c xs | _ => false)
  | .dnew _, _, e => (match e with | .Dict [] [] _ => true | _ => false)
  | .ddisp es, c, e => (match e with | .Dict keys values _ => keys.all (·.isSome) && (decide (keys.length = values.length) && (!keys.isEmpty && (decide (keys.length ≤ 15) && ckL es c (flatK keys values)))) | _ => false)
  | .dnewN, _, e => (match e with | .Dict [] [] _ => true | _ => false)
  | .ddispN a b, c, e => (match e with | .Dict [some x] [y] _ => ckE a c x && ckE b c y | _ => false)
  | .bin op a b, c, e => (match e with | .BinOp x o y _ => decide (o = bopOf op) && (ckE a c x && ckE b c y) | _ => false)
  | .neg a, c, e => (match e with | .UnaryOp .USub x _ => ckE a c x | _ => false)
  | .cmp op a b, c, e => (match e with | .Compare x [o] [y] _ => decide (o = copOf op) && (!behindInMarks o y && (ckE a c x && ckE b c y)) | _ => false)
  | .chain o1 o2 a b d, c, e => (match e with | .Compare x [p, q] [y, z] _ => decide (p = copOf o1) && (decide (q = copOf o2) && (!lastMarks [p, q] [y, z] && (ckE a c x && (ckE b c y && ckE d c z)))) | _ => false)
  | .isN a, c, e => (match e with | .Compare x [.Is] [.Constant .none _ _] _ => ckE a c x | _ => false)
  | .notN a, c, e => (match e with | .Compare x [.IsNot] [.Constant .none _ _] _ => ckE a c x | _ => false)
  | .isB neg b a, c, e => (match e with | .Compare x [o] [.Constant (.bool b') _ _] _ => decide (o = if neg then CmpOp.IsNot else CmpOp.Is) && (decide (b' = b) && ckE a c x) | _ => false)
  | .ands es, c, e => (match e with | .BoolOp .And xs _ => !xs.isEmpty && ckL es c xs | _ => false)
  | .ors es, c, e => (match e with | .BoolOp .Or xs _ => !xs.isEmpty && ckL es c xs | _ => false)
  | .not a, c, e => (match e with | .UnaryOp .Not x _ => ckE a c x | _ => false)
  | .ite d a b, c, e => (match e with | .IfExp x y z _ => ckE d c x && (ckE a c y && ckE b c z) | _ => false)
  | .slice a lo hi, c, e => (match e with
    | .Subscript x (.Slice l h none _) _ => ckE a c x && ((match l with | none => isNil lo | some y => !isNil lo && ckE lo c y) && (match h with | none => isNil hi | some y => !isNil hi && ckE hi c y))
    | _ => false)
  | .dget o k d, c, e => (match e with | .Call (.Attribute y a apos) [u, v] [] pos => decide (a = "get") && ((apos.endLine == pos.line) && (notSup y && (!isStar u && (!isStar v && (ckE o c y && (ckE k c u && ckE d c v)))))) | _ => false)
  | .dget1 o k, c, e => (match e with | .Call (.Attribute y a apos) [u] [] pos => decide (a = "get") && ((apos.endLine == pos.line) && (notSup y && (!isStar u && (ckE o c y && ckE k c u)))) | _ => false)
  | .ix a i, c, e => (match e with | .Subscript x y _ => notSlice y && (ckE a c x && ckE i c y) | _ => false)
  | .call f es, c, e => (match e with | .Call (.Name x _) xs [] _ => gFn c f xs.length x && ckL es c xs | _ => false)
  | .blt f es, c, e => (match e with | .Call (.Name x _) xs [] _ => gBl c (bfnN f) x && ((bfnV f).isSome && (!xs.isEmpty && ckL es c xs)) | _ => false)
  | .mth m o es, c, e => (match e with
    | .Call (.Attribute y a apos) xs [] pos => (match mfnT m with | some t => decide (a = t.2.1) | none => false) && ((apos.endLine == pos.line) && (notSup y && (decide (xs.length < 10) && (ckE o c y && ckL es c xs))))
    | _ => false)
  | .isinst a t, c, e => (match e with | .Call (.Name x _) [y, .Name z _] [] _ => gBl c "isinstance" x && (gBl c (Str.ofString t) z && (tyOk t && (!isStar y && ckE a c y))) | _ => false)
  | .comp own tg it cnd elt, c, e => (match e with
    | .ListComp x [⟨g, itx, ifs, is_⟩] scope _ => decide (is_ = 0) && ((enOk it g && ckI it c itx) && (notSet itx && (blkC c.N c.sc scope own && (decide (own.map (·.2) = tg.slots) && (ckTg tg c.N (ownB (relS scope c.sc)) g &&
        ((match ifs with | [] => isNil cnd | [i] => !isNil cnd && ckE cnd { c with sc := relS scope c.sc, xs := false } i | _ => false) && ckE elt { c with sc := relS scope c.sc, xs := false } x))))))
    | _ => false)
  | .comp2 own tg it tg1 it1 cnd elt, c, e => (match e with
    | .ListComp x [⟨g, itx, [], is_⟩, ⟨g1, itx1, ifs1, is1⟩] scope _ => decide (is_ = 0) && (decide (is1 = 0) && ((!isKeysE it && (enOk it g && ckI it c itx)) && ((!isKeysE it1 && (enOk it1 g1 && ckI it1 { c with sc := relS scope c.sc, xs := false } itx1)) && ((notSet itx && notSet itx1) && (blkC c.N c.sc scope own && ((tg.slots.all (fun i => decide (i ∈ own.map (·.2))) && tg1.slots.all (fun i => decide (i ∈ own.map (·.2)))) &&
        ((ckTg tg c.N (ownB (relS scope c.sc)) g && ckTg tg1 c.N (ownB (relS scope c.sc)) g1) && ((match ifs1 with | [] => isNil cnd | [i] => !isNil cnd && ckE cnd { c with sc := relS scope c.sc, xs := false } i | _ => false) && ckE elt { c with sc := relS scope c.sc, xs := false } x))))))))
    | _ => false)
  | .dcompN own tg it cnd k v, c, e => (match e with
    | .DictComp x y [⟨g, itx, ifs, is_⟩] scope _ => decide (is_ = 0) && ((enOk it g && ckI it c itx) && ((match it with | .iKeys _ => false | _ => true) && (notSet itx && (blkC c.N c.sc scope own && (decide (own.map (·.2) = tg.slots) && (ckTg tg c.N (ownB (relS scope c.sc)) g &&
        ((match ifs with | [] => isNil cnd | [i] => !isNil cnd && ckE cnd { c with sc := relS scope c.sc, xs := false } i | _ => false) && (ckE k { c with sc := relS scope c.sc, xs := false } x && ckE v { c with sc := relS scope c.sc, xs := false } y))))))))
    | _ => false)
  | .fld f o, c, e => (match e with | .Attribute y a _ => decide (a = f) && (notSup y && ckE o c y) | _ => false)
  | .meth cn m f o es, c, e => (match e with
    | .Call (.Attribute y a apos) xs [] pos => decide (a = m) && (hasMeth c cn m f && ((c.T[f]?).isSome && ((apos.endLine == pos.line) && (notSup y && (decide (xs.length < 10) && (ckE o c y && ckL es c xs))))))
    | _ => false)
  | .make cn f es, c, e => (match e with | .Call (.Name x _) xs [] _ => decide (x = cn) && (hasInit c cn f && ((c.T[f]?).isSome && ((glB c.sc x && okN x) && ckL es c xs))) | _ => false)
  | .prop cn m f o, c, e => (match e with | .Attribute y a _ => decide (a = m) && (hasProp c cn m f && ((c.T[f]?).isSome && (notSup y && ckE o c y))) | _ => false)
  | .setdef o k d, c, e => (match e with | .Call (.Attribute y a apos) [u, v] [] pos => decide (a = "setdefault") && ((apos.endLine == pos.line) && (notSup y && (!isStar u && (!isStar v && (ckE o c y && (ckE k c u && ckE d c v)))))) | _ => false)
  | .lrng t a b, c, e => (match e with
    | .Call (.Name x _) [.Call (.Name y _) [u] [] _] [] _ => gBl c (if t then "tuple" else "list") x && (gBl c "range" y && (!isStar u && (isNil a && ckE b c u)))
    | .Call (.Name x _) [.Call (.Name y _) [u, v] [] _] [] _ => gBl c (if t then "tuple" else "list") x && (gBl c "range" y && (!isStar u && (!isStar v && (!isNil a && (ckE a c u && ckE b c v)))))
    | _ => false)
  | .tidx o a, c, e => (match e with | .Call (.Attribute y m apos) [u] [] pos => decide (m = "index") && ((apos.endLine == pos.line) && (notSup y && (!isStar u && (ckE o c y && ckE a c u)))) | _ => false)
  | .gint x i, c, e => (match e with | .Name y _ => decide (y = x) && ((glB c.sc x && okN x) && c.ks.any fun p => decide (p = (x, i))) | _ => false)
  | .gstr x i, c, e => (match e with | .Name y _ => decide (y = x) && ((glB c.sc x && okN x) && c.ss.any fun p => decide (p = (x, i))) | _ => false)
  | .gdat x u, c, e => (match e with | .Name y _ => decide (y = x) && ((glB c.sc x && okN x) && c.ds.any fun p => decide (p = (x, u))) | _ => false)
  | .dgetN o k d, c, e => (match e with | .Call (.Attribute y a apos) [u, v] [] pos => decide (a = "get") && ((apos.endLine == pos.line) && (notSup y && ((!isStar u && !isStar v) && (ckE o c y && (ckE k c u && ckE d c v))))) | _ => false)
  | .gtup x i, c, e => (match e with | .Name y _ => decide (y = x) && ((glB c.sc x && okN x) && c.ts.any fun p => decide (p = (x, i))) | _ => false)
  | .sset a, c, e => (match e with | .Call (.Name x _) [.Call (.Name y _) [u] [] _] [] _ => gBl c "sorted" x && (gBl c "set" y && (!isStar u && ckE a c u)) | _ => false)
  | .callX f es, c, e => (match e with | .Call (.Name x _) xs [] _ => c.xs && (gFn c f xs.length x && (!xs.isEmpty && ckL es c xs)) | _ => false)
  | .xfd _ _ _, _, _ => false
  | .isx _ _ _, _, _ => false
  | .iStr _, _, _ => false
  | .iSeq _, _, _ => false
  | .iRange _, _, _ => false
  | .iRange2 _ _, _, _ => false
  | .iEnum _, _, _ => false
  | .iZip _ _, _, _ => false
  | .iRev _, _, _ => false
  | .iKeys _, _, _ => false
def ckL : E → Ck → List Expr → Bool
  | .nil, _, xs => xs.isEmpty
  | .cons a b, c, xs => (match xs with | x :: xs => !isStar x && (ckE a c x && ckL b c xs) | [] => false)
  | _, _, _ => false
def ckI : E → Ck → Expr → Bool
  | .iSeq a, c, x => ckE a c x
  | .iStr a, c, x => ckE a c x
  | .iRange a, c, e => (match e with | .Call (.Name x _) [y] [] _ => gBl c "range" x && (!isStar y && ckE a c y) | _ => false)
  | .iRange2 a b, c, e => (match e with | .Call (.Name x _) [y, z] [] _ => gBl c "range" x && (!isStar y && (!isStar z && (ckE a c y && ckE b c z))) | _ => false)
  | .iRev a, c, e => (match e with | .Call (.Name x _) [y] [] _ => gBl c "reversed" x && (!isStar y && ckE a c y) | _ => false)
  | .iZip a b, c, e => (match e with | .Call (.Name x _) [y, z] [] _ => gBl c "zip" x && (!isStar y && (!isStar z && (ckE a c y && ckE b c z))) | _ => false)
  | .iEnum a, c, e => (match e with | .Call (.Name x _) [y] [] _ => gBl c "enumerate" x && (!isStar y && ckE a c y) | _ => false)
  | .iKeys a, c, e => (match e with | .Name x _ => (match a with | .var i => varB c i x | _ => false) | _ => false)
  | _, _, _ => false
end

/-- what is known of a class -/
structure ClsK (K : Fg) (mg : Str → Option Value) (fa : Nat → Addr) (cd : Cd) : Prop where
  cls : Cls K (cad K cd.name)
  flds : ∀ f ∈ cd.flds, NoAttr K (cad K cd.name) f
  mets : ∀ p ∈ cd.mets, Meth K (cad K cd.name) p.1 (fa p.2)
  prps : ∀ p ∈ cd.prps, ∃ pa, PropOf K (cad K cd.name) p.1 pa (fa p.2)
  init : ∀ i, cd.init = some i → Mk K (cad K cd.name) (fa i) ∧ mg cd.name = some (.ref (cad K cd.name))
/-- a class of errors, as a value -/
def clv (K : Fg) (z : Str) : Value := if z = "ValueError" then .type "ValueError" else .ref (cad K z)
/-- what is known of the errors -/
structure Xf (K : Fg) (P : Program) (mg : Str → Option Value) (c : Ck) : Prop where
  one : ∀ p ∈ c.xcl, ∀ f, p.2 = some f → Xo.XOne K P mg p.1 f (cad K p.1) ∧ XfC K (cad K p.1)
  nil : ∀ p ∈ c.xcl, p.2 = none → Xo.XNil K P mg p.1 (cad K p.1)
  exc : ∀ p ∈ c.xcl, ExcC K (cad K p.1)
  isy : ∀ p ∈ c.isxs, ∀ y ∈ p.2.1, PySem.W.kitAny K (.ref (cad K y)) (p.1.map (clv K)) = some true
  isn : ∀ p ∈ c.isxs, ∀ y ∈ p.2.2, PySem.W.kitAny K (.ref (cad K y)) (p.1.map (clv K)) = some false
  hdy : ∀ p ∈ c.hds, ∀ y ∈ p.2.1, PySem.W.exmOne K (.ref (cad K y)) (.ref (cad K p.1)) = some true
  hdn : ∀ p ∈ c.hds, ∀ y ∈ p.2.2, PySem.W.exmOne K (.ref (cad K y)) (.ref (cad K p.1)) = some false
  nms : ∀ z ∈ c.xnm, mg z = some (.ref (cad K z))
/-- what stands around -/
structure Gd (X : Cy) (c : Ck) (k : Nat) (fa : Nat → Addr) (fd : Nat → FuncData) (C : CE) : Prop where
  sc : X.env.scope = c.sc
  N : X.N = c.N
  nd : c.N.Nodup
  calm : X.calm = true
  po : PassesOwn (model X.prog X.w) X.A X.env X.xe
  tk : c.xs = true → Takes X (wxU (kwX X) C.xc)
  xf : Xf X.K X.prog X.mg c
  room : Room (k + 1) X.A
  blt : ∀ x ∈ bltNames, X.mg x = none
  fns : ∀ i d, c.T[i]? = some d → (d.cls = none → X.mg d.name = some (.ref (fa i))) ∧ PySem.W.keepIn (kwX X) (.ref (fa i)) = true ∧ Binds (kwX X) (fd i) d.ps [] ∧ FnOk X.prog X.w X.K X.mg X.base (L2.CX X.prog X.w) k (fa i) (fd i) d.ps (spX (X.K, X.w) (C.x i))
  clss : ∀ cd ∈ c.cs, ClsK (kwX X) X.mg fa cd
  kints : ∀ p ∈ c.ks, ∃ t, X.mg p.1 = some (.int p.2 t)
  kstrs : ∀ p ∈ c.ss, ∃ t, X.mg p.1 = some (.str p.2 t)
  ktups : ∀ p ∈ c.ts, ∃ a, X.mg p.1 = some (.ref a) ∧ KTp (kwX X) a (p.2.map V.int)
  kdats : ∀ p ∈ c.ds, ∃ z v, X.mg p.1 = some z ∧ RelV v z ∧ ∀ H, Rel (kwX X) H v p.2
section
variable {X : Cy} {c : Ck} {k : Nat} {fa : Nat → Addr} {fd : Nat → FuncData} {C : CE}
theorem Gd.blk (G : Gd X c k fa fd C) (scope : Scope) (s : Shared) (H : Hp) (A : Addr) (cl : List (Str × Addr)) (fp : List Addr) : Gd (Blk X scope s H A cl fp) { c with sc := relS scope c.sc, xs := false } k fa fd C :=
  ⟨by rw [← G.sc]; rfl, G.N, G.nd, G.calm, PassesOwn.never, (fun z => by cases z), ⟨G.xf.one, G.xf.nil, G.xf.exc, G.xf.isy, G.xf.isn, G.xf.hdy, G.xf.hdn, G.xf.nms⟩, G.room, G.blt, G.fns, G.clss, G.kints, G.kstrs, G.ktups, G.kdats⟩
theorem Gd.quiet (G : Gd X c k fa fd C) : Gd X { c with xs := false } k fa fd C :=
  ⟨G.sc, G.N, G.nd, G.calm, G.po, (fun z => by cases z), ⟨G.xf.one, G.xf.nil, G.xf.exc, G.xf.isy, G.xf.isn, G.xf.hdy, G.xf.hdn, G.xf.nms⟩, G.room, G.blt, G.fns, G.clss, G.kints, G.kstrs, G.ktups, G.kdats⟩
theorem Gd.room0 (G : Gd X c k fa fd C) : Room k X.A := G.room.mono (Nat.le_succ k)
theorem Gd.u65 (G : Gd X c k fa fd C) : X.A.units + 66 < cLine := by
  have h := G.room.un
  omega
theorem Gd.u66 (G : Gd X c k fa fd C) : X.A.units + 66 < cLine := by
  have h := G.room.un
  omega
theorem Gd.u1 (G : Gd X c k fa fd C) : X.A.units + 1 < cLine := by
  have h := G.room.un
  omega
theorem vis_of (G : Gd X c k fa fd C) {x : Str} (h : visB c.sc x = true) : Vis X.env.scope x := by
  rw [G.sc]
  unfold visB at h
  unfold Vis
  split at h
  · exact .inl (by assumption)
  · exact .inr (.inl (by assumption))
  · exact .inr (.inr (by assumption))
  · cases h
theorem loc_of (G : Gd X c k fa fd C) {x : Str} (h : locB c.sc x = true) : L2.Loc X.env.scope x := by
  rw [G.sc]
  unfold locB at h
  unfold L2.Loc
  split at h
  · exact .inl (by assumption)
  · exact .inr (by assumption)
  · cases h
theorem own_of (G : Gd X c k fa fd C) {x : Str} (h : ownB c.sc x = true) : X.env.scope.names.lookup x = some .local := by
  rw [G.sc]
  unfold ownB at h
  split at h
  · assumption
  · cases h
theorem gl_of (G : Gd X c k fa fd C) {x : Str} (h : glB c.sc x = true) : Gl X x := by
  show X.env.scope.names.lookup x = some .globalImplicit
  rw [G.sc]
  unfold glB at h
  split at h
  · assumption
  · cases h
theorem okN_of {x : Str} (h : okN x = true) : (x == ("__debug__" : Str)) = false ∧ (x == ("__classdict__" : Str)) = false ∧ x ≠ "__name__" := by
  unfold okN at h
  simp only [Bool.and_eq_true, Bool.not_eq_true'] at h
  exact ⟨h.1.1, h.1.2, fun e => by rw [e] at h; simp at h⟩
theorem pe_varB (G : Gd X c k fa fd C) {i : Nat} {x : Str} {pos : Pos} (h : varB c i x = true) : PE X (.Name x pos) (tVar i) := by
  unfold varB at h
  simp only [Bool.and_eq_true, decide_eq_true_eq] at h
  obtain ⟨a, b, _⟩ := okN_of h.2
  exact pe_var (by rw [G.N]; exact h.1.1) (vis_of G h.1.2) a b
theorem boot_of {f : Bfn} {v : Value} (h : bfnV f = some v) : bootBuiltins (bfnN f) = some v ∧ bfnN f ∈ bltNames := by
  cases f <;> first | (cases h; done) | (cases h; exact ⟨by decide +kernel, by decide +kernel⟩)
/-- and, or over a row -/
def AO (X : Cy) (W : Wp) (es : List Expr) : Prop := ∀ pos, (∃ t, PW X (.BoolOp .And es pos) t ∧ EvT (kwX X) t W.ta) ∧ (∃ t, PW X (.BoolOp .Or es pos) t ∧ EvT (kwX X) t W.to) ∧ SE1 X W.va (.BoolOp .And es pos) ∧ SE1 X W.vo (.BoolOp .Or es pos)
theorem ao_one {W : Wp} {x : Expr} (h : SE X W x) : AO X ⟨fE, fT, fun _ _ _ => False, W.t, W.t, W.e, W.e, fI⟩ [x] := fun pos => by
  obtain ⟨⟨t1, p1, q1⟩, ⟨t2, p2, q2⟩⟩ := h
  exact ⟨⟨_, pw_and1 p2, q2⟩, ⟨_, pw_or1 p2, q2⟩, ⟨_, pe_one p1, q1⟩, ⟨_, pe_one p1, q1⟩⟩
theorem ao_cons {W V : Wp} {x y : Expr} {es : List Expr} (h : SE X W x) (hr : AO X V (y :: es)) :
    AO X ⟨fE, fT, fun _ _ _ => False, fun σ M Q => W.t σ M fun c M1 => if c = true then V.ta σ M1 Q else Q false M1, fun σ M Q => W.t σ M fun c M1 => if c = true then Q true M1 else V.to σ M1 Q,
      fun σ M Q => bW W.e σ M fun c M1 => if c = true then V.va σ M1 Q else Q (.bl false) M1, fun σ M Q => bW W.e σ M fun c M1 => if c = true then Q (.bl true) M1 else V.vo σ M1 Q, fI⟩ (x :: y :: es) := fun pos => by
  obtain ⟨⟨t1, p1, q1⟩, ⟨t2, p2, q2⟩⟩ := h
  obtain ⟨⟨ta, pa, qa⟩, ⟨tb, pb, qb⟩, ⟨tc, pc, qc⟩, ⟨td, pd, qd⟩⟩ := hr pos
  refine ⟨⟨_, pw_and p2 pa, fun σ H σu M Qu Q rs S hf c => ?_⟩, ⟨_, pw_or p2 pb, fun σ H σu M Qu Q rs S hf c => ?_⟩, ⟨_, pe_and p1 pc, fun σ H σu M Qu Q rs S hf c => ?_⟩, ⟨_, pe_or p1 pd, fun σ H σu M Qu Q rs S hf c => ?_⟩⟩
  · refine q2 σ H σu M _ _ rs S hf fun b H1 M1 st S1 hq => ?_
    cases b with
    | true => exact qa σ H1 σu M1 _ _ (rs.stp S st) S1 hq (c.tr S st)
    | false => exact c _ _ _ st S1 hq
  · refine q2 σ H σu M _ _ rs S hf fun b H1 M1 st S1 hq => ?_
    cases b with
    | true => exact c _ _ _ st S1 hq
    | false => exact qb σ H1 σu M1 _ _ (rs.stp S st) S1 hq (c.tr S st)
  · refine q1 σ H σu M _ _ rs S hf fun v H1 u M1 st S1 r hq => ?_
    obtain ⟨b, rfl, hq⟩ := hq
    cases r
    refine ⟨b, rfl, ?_⟩
    cases b with
    | true => exact qc σ H1 σu M1 _ _ (rs.stp S st) S1 hq (c.tr S st)
    | false => exact c _ _ _ _ st S1 (.bl _) hq
  · refine q1 σ H σu M _ _ rs S hf fun v H1 u M1 st S1 r hq => ?_
    obtain ⟨b, rfl, hq⟩ := hq
    cases r
    refine ⟨b, rfl, ?_⟩
    cases b with
    | true => exact c _ _ _ _ st S1 (.bl _) hq
    | false => exact qd σ H1 σu M1 _ _ (rs.stp S st) S1 hq (c.tr S st)
theorem sg_of (G : Gd X c k fa fd C) {tg : Tg} {e : Expr} (h : ckTg tg c.N (ownB c.sc) e = true) : SG X e tg := by
  unfold ckTg at h
  split at h
  · split at h
    · rw [Bool.and_eq_true] at h
      have o := own_of G h.2
      exact sg_one (by rw [G.N]; exact G.nd) (by rw [G.N]; exact of_decide_eq_true h.1) (.inl o) (.inr o)
    · cases h
  · split at h
    · exact sg_many G.calm (by rw [G.N]; exact G.nd) (ok := ownB c.sc) (fun x hx => ⟨.inl (own_of G hx), .inr (own_of G hx)⟩) (by rw [G.N]; exact h)
    · cases h
  · cases h
theorem sg_ofF (G : Gd X c k fa fd C) (hf : ∀ x, X.fn x = true) {tg : Tg} {e : Expr} (h : ckTg tg c.N (locB c.sc) e = true) : SG X e tg := by
  unfold ckTg at h
  split at h
  · split at h
    · rw [Bool.and_eq_true] at h
      exact sg_one (by rw [G.N]; exact G.nd) (by rw [G.N]; exact of_decide_eq_true h.1) (loc_of G h.2) (.inl (hf _))
    · cases h
  · split at h
    · exact sg_many G.calm (by rw [G.N]; exact G.nd) (ok := locB c.sc) (fun x hx => ⟨loc_of G hx, .inl (hf _)⟩) (by rw [G.N]; exact h)
    · cases h
  · cases h
end
def SndE (e : E) : Prop := ∀ (X : Cy) (c : Ck) (k : Nat) (fa : Nat → Addr) (fd : Nat → FuncData) (C : CE), Gd X c k fa fd C → ∀ x, ckE e c x = true → SE X (w C e) x
def SndL (e : E) : Prop := ∀ (X : Cy) (c : Ck) (k : Nat) (fa : Nat → Addr) (fd : Nat → FuncData) (C : CE), Gd X c k fa fd C → ∀ xs, ckL e c xs = true → SA X (w C e).l xs ∧ xs.all (fun e => !isStar e) = true ∧ (xs ≠ [] → AO X (w C e) xs) ∧ (xs = [] → e = .nil) ∧ SEs X (w C e).l xs
def SndI (e : E) : Prop := ∀ (X : Cy) (c : Ck) (k : Nat) (fa : Nat → Addr) (fd : Nat → FuncData) (C : CE), Gd X c k fa fd C → ∀ x tg, ckI e c x = true → enOk e tg = true → (SI X tg x (w C e).i) ∨ ∃ i, e = .iKeys (.var i) ∧ PE X x (tVar i)
theorem noE {e : E} (h : ∀ c x, ckE e c x = false) : SndE e := fun X c k fa fd C G x q => by rw [h c x] at q; cases q
theorem noL {e : E} (h : ∀ c x, ckL e c x = false) : SndL e := fun X c k fa fd C G x q => by rw [h c x] at q; cases q
theorem noI {e : E} (h : ∀ c x, ckI e c x = false) : SndI e := fun X c k fa fd C G x tg q _ => by rw [h c x] at q; cases q
/-- a comprehension's parts -/
theorem compOk_of {X : Cy} {c : Ck} {k : Nat} {fa : Nat → Addr} {fd : Nat → FuncData} {C : CE} (G : Gd X c k fa fd C) {cnd elt : E} (sc : SndE cnd) (se : SndE elt) {tg : Tg} {own : List (Str × Nat)} {scope : Scope} {g e : Expr} {ifs : List Expr}
    (hb : blkC c.N c.sc scope own = true) (ho : own.map (·.2) = tg.slots) (ht : ckTg tg c.N (ownB (relS scope c.sc)) g = true)
    (hi : (match ifs with | [] => isNil cnd | [i] => !isNil cnd && ckE cnd { c with sc := relS scope c.sc, xs := false } i | _ => false) = true) (he : ckE elt { c with sc := relS scope c.sc, xs := false } e = true) :
    CompOk X g e ifs scope own tg (if isNil cnd = true then fun _ M Q => Q true M else (w C cnd).t) (w C elt).e := by
  refine ⟨G.calm, by rw [G.N]; exact G.nd, ?_, ho, fun s H A cl fp => sg_of (G.blk scope s H A cl fp) ht, ?_, fun s H A cl fp => (se _ _ k fa fd C (G.blk scope s H A cl fp) e he).1⟩
  · rw [G.N, G.sc]
    exact blkOk_by hb
  · split at hi
    · left
      exact ⟨rfl, by rw [if_pos hi]⟩
    · right
      rw [Bool.and_eq_true] at hi
      refine ⟨_, rfl, fun s H A cl fp => ?_⟩
      rw [if_neg (by simpa using hi.1)]
      exact (sc _ _ k fa fd C (G.blk scope s H A cl fp) _ hi.2).2
    · cases hi
theorem comp2_of {X : Cy} {c : Ck} {k : Nat} {fa : Nat → Addr} {fd : Nat → FuncData} {C : CE} (G : Gd X c k fa fd C) {it it1 cnd elt : E} (si : SndI it) (si1 : SndI it1) (sc : SndE cnd) (se : SndE elt) {tg tg1 : Tg} {own : List (Str × Nat)} {scope : Scope} {g itx g1 itx1 x : Expr} {ifs1 : List Expr} 
    (h3 : isKeysE it = false) (h4 : enOk it g = true) (h5 : ckI it c itx = true) (h6 : isKeysE it1 = false) (h7 : enOk it1 g1 = true) (h8 : ckI it1 { c with sc := relS scope c.sc, xs := false } itx1 = true) (h11 : blkC c.N c.sc scope own = true) (h12 : ∀ i ∈ tg.slots, i ∈ own.map (·.2)) (h13 : ∀ i ∈ tg1.slots, i ∈ own.map (·.2))
    (h14 : ckTg tg c.N (ownB (relS scope c.sc)) g = true) (h15 : ckTg tg1 c.N (ownB (relS scope c.sc)) g1 = true) (h16 : (match ifs1 with | [] => isNil cnd | [i] => !isNil cnd && ckE cnd { c with sc := relS scope c.sc, xs := false } i | _ => false) = true) (h17 : ckE elt { c with sc := relS scope c.sc, xs := false } x = true) :
    CompOk2 X g g1 itx1 x ifs1 scope own tg tg1 (w C it1).i (if isNil cnd = true then fun _ M Q => Q true M else (w C cnd).t) (w C elt).e ∧ SI X g itx (w C it).i := by
  have hi : SI X g itx (w C it).i := by
    rcases si X c k fa fd C G itx g h5 h4 with q | ⟨i, rfl, _⟩
    · exact q
    · cases h3
  refine ⟨⟨G.calm, by rw [G.N]; exact G.nd, ?_, h12, h13, fun s H A cl fp => sg_of (G.blk scope s H A cl fp) h14, fun s H A cl fp => sg_of (G.blk scope s H A cl fp) h15, fun s H A cl fp => ?_, ?_, fun s H A cl fp => (se _ _ k fa fd C (G.blk scope s H A cl fp) x h17).1⟩, hi⟩
  · rw [G.N, G.sc]
    exact blkOk_by h11
  · rcases si1 _ _ k fa fd C (G.blk scope s H A cl fp) itx1 g1 h8 h7 with q | ⟨i, rfl, _⟩
    · exact q
    · cases h6
  · split at h16
    · left
      exact ⟨rfl, by rw [if_pos h16]⟩
    · right
      rw [Bool.and_eq_true] at h16
      refine ⟨_, rfl, fun s H A cl fp => ?_⟩
      rw [if_neg (by simpa using h16.1)]
      exact (sc _ _ k fa fd C (G.blk scope s H A cl fp) _ h16.2).2
    · cases h16
theorem gBl_of {X : Cy} {c : Ck} {k : Nat} {fa : Nat → Addr} {fd : Nat → FuncData} {C : CE} (G : Gd X c k fa fd C) {n x : Str} (h : gBl c n x = true) (hn : n ∈ bltNames) : x = n ∧ Gl X x ∧ X.mg x = none ∧ (x == ("__debug__" : Str)) = false ∧ x ≠ "__name__" := by
  unfold gBl at h
  simp only [Bool.and_eq_true, decide_eq_true_eq] at h
  obtain ⟨e, h1, h2⟩ := h
  obtain ⟨a, _, b⟩ := okN_of h2
  exact ⟨e, gl_of G h1, by rw [e]; exact G.blt n hn, a, b⟩
theorem sound (e : E) : SndE e ∧ SndL e ∧ SndI e := by
  induction e with
  | var i =>
    refine ⟨fun X c k fa fd C G x h => ?_, noL fun _ _ => rfl, noI fun _ _ => rfl⟩
    unfold ckE at h
    split at h <;> first | (cases h; done) | skip
    refine .ofE rfl ⟨_, pe_varB G h, ?_⟩
    intro σ H σu M Qu Q rs S ⟨u, e, q⟩ c
    obtain ⟨v, e1, r⟩ := rs.2 i u e
    exact ⟨v, e1, c.at_ S r q⟩
  | int i =>
    refine ⟨fun X c k fa fd C G x h => ?_, noL fun _ _ => rfl, noI fun _ _ => rfl⟩
    unfold ckE at h
    split at h <;> first | (cases h; done) | skip
    obtain rfl : i = _ := of_decide_eq_true h
    exact .ofE rfl se_int
  | str i =>
    refine ⟨fun X c k fa fd C G x h => ?_, noL fun _ _ => rfl, noI fun _ _ => rfl⟩
    unfold ckE at h
    split at h <;> first | (cases h; done) | skip
    obtain rfl : i = _ := of_decide_eq_true h
    exact .ofE rfl se_str
  | bl i =>
    refine ⟨fun X c k fa fd C G x h => ?_, noL fun _ _ => rfl, noI fun _ _ => rfl⟩
    unfold ckE at h
    split at h <;> first | (cases h; done) | skip
    obtain rfl : i = _ := of_decide_eq_true h
    exact .ofE rfl se_bl
  | non =>
    refine ⟨fun X c k fa fd C G x h => ?_, noL fun _ _ => rfl, noI fun _ _ => rfl⟩
    unfold ckE at h
    split at h <;> first | (cases h; done) | skip
    exact .ofE rfl se_non
  | nil =>
    refine ⟨noE fun _ _ => rfl, fun X c k fa fd C G xs h => ?_, noI fun _ _ => rfl⟩
    cases xs with
    | nil => exact ⟨sa_nil, rfl, fun z => absurd rfl z, fun _ => rfl, .nil⟩
    | cons _ _ => cases h
  | cons a b iha ihb =>
    refine ⟨noE fun _ _ => rfl, fun X c k fa fd C G xs h => ?_, noI fun _ _ => rfl⟩
    cases xs with
    | nil => cases h
    | cons x xs =>
      have h : (!isStar x && (ckE a c x && ckL b c xs)) = true := h
      rw [Bool.and_eq_true, Bool.and_eq_true] at h
      obtain ⟨h1, h2, h3⟩ := h
      have h1 : isStar x = false := by simpa using h1
      have sa := iha.1 X c k fa fd C G x h2
      obtain ⟨sb, hs, ao, hn, se⟩ := ihb.2.1 X c k fa fd C G xs h3
      refine ⟨sa_cons h1 sa.1 sb, by rw [List.all_cons, h1, hs]; rfl, fun _ => ?_, (fun z => by cases z), .cons sa.1 se⟩
      cases xs with
      | nil =>
        have e := hn rfl
        subst e
        exact ao_one sa
      | cons y ys =>
        have hb : isNil b = false := by
          cases b <;> first | rfl | (cases h3; done)
        have hn : ¬ isNil b = true := by rw [hb]; decide
        have e1 : (w C (.cons a b)).ta = fun σ M Q => (w C a).t σ M fun c M1 => if c = true then (w C b).ta σ M1 Q else Q false M1 := if_neg hn
        have e2 : (w C (.cons a b)).to = fun σ M Q => (w C a).t σ M fun c M1 => if c = true then Q true M1 else (w C b).to σ M1 Q := if_neg hn
        have e3 : (w C (.cons a b)).va = fun σ M Q => bW (w C a).e σ M fun c M1 => if c = true then (w C b).va σ M1 Q else Q (.bl false) M1 := if_neg hn
        have e4 : (w C (.cons a b)).vo = fun σ M Q => bW (w C a).e σ M fun c M1 => if c = true then Q (.bl true) M1 else (w C b).vo σ M1 Q := if_neg hn
        have q := ao_cons sa (ao (by simp))
        intro pos
        rw [e1, e2, e3, e4]
        exact q pos
  | tup es ih =>
    refine ⟨fun X c k fa fd C G x h => ?_, noL fun _ _ => rfl, noI fun _ _ => rfl⟩
    unfold ckE at h
    split at h <;> first | (cases h; done) | skip
    exact .ofE rfl (se_tup (ih.2.1 X c k fa fd C G _ h).1)
  | dtup es ih =>
    refine ⟨fun X c k fa fd C G x h => ?_, noL fun _ _ => rfl, noI fun _ _ => rfl⟩
    unfold ckE at h
    split at h <;> first | (cases h; done) | skip
    exact .ofE rfl (se_dtup (ih.2.1 X c k fa fd C G _ h).1)
  | lst es ih =>
    refine ⟨fun X c k fa fd C G x h => ?_, noL fun _ _ => rfl, noI fun _ _ => rfl⟩
    unfold ckE at h
    split at h <;> first | (cases h; done) | skip
    exact .ofE rfl (se_lst (ih.2.1 X c k fa fd C G _ h).1)
  | ddisp es ih =>
    refine ⟨fun X c k fa fd C G x h => ?_, noL fun _ _ => rfl, noI fun _ _ => rfl⟩
    unfold ckE at h
    split at h <;> first | (cases h; done) | skip
    rw [Bool.and_eq_true, Bool.and_eq_true, Bool.and_eq_true, Bool.and_eq_true] at h
    obtain ⟨h1, h2, h3, h4, h5⟩ := h
    have hne := h3
    exact .ofE rfl (se_ddisp (sps_of (ih.2.1 X c k fa fd C G _ h5).2.2.2.2 h1 (of_decide_eq_true h2)) h1 (of_decide_eq_true h2) (by intro z; rw [z] at hne; cases hne) (of_decide_eq_true h4))
  | ddispN a b iha ihb =>
    refine ⟨fun X c k fa fd C G x h => ?_, noL fun _ _ => rfl, noI fun _ _ => rfl⟩
    unfold ckE at h
    split at h <;> first | (cases h; done) | skip
    rw [Bool.and_eq_true] at h
    exact .ofE rfl (se_ddispN G.u66 (iha.1 X c k fa fd C G _ h.1).1 (ihb.1 X c k fa fd C G _ h.2).1)
  | dnewN =>
    refine ⟨fun X c k fa fd C G x h => ?_, noL fun _ _ => rfl, noI fun _ _ => rfl⟩
    unfold ckE at h
    split at h <;> first | (cases h; done) | skip
    exact .ofE rfl se_dnewN
  | dnew t =>
    refine ⟨fun X c k fa fd C G x h => ?_, noL fun _ _ => rfl, noI fun _ _ => rfl⟩
    unfold ckE at h
    split at h <;> first | (cases h; done) | skip
    exact .ofE rfl se_dnew
  | bin op a b iha ihb =>
    refine ⟨fun X c k fa fd C G x h => ?_, noL fun _ _ => rfl, noI fun _ _ => rfl⟩
    unfold ckE at h
    split at h <;> first | (cases h; done) | skip
    simp only [Bool.and_eq_true, decide_eq_true_eq] at h
    obtain ⟨rfl, h1, h2⟩ := h
    exact .ofE rfl (se_bin (iha.1 X c k fa fd C G _ h1).1 (ihb.1 X c k fa fd C G _ h2).1)
  | neg a ih =>
    refine ⟨fun X c k fa fd C G x h => ?_, noL fun _ _ => rfl, noI fun _ _ => rfl⟩
    unfold ckE at h
    split at h <;> first | (cases h; done) | skip
    exact .ofE rfl (se_neg (ih.1 X c k fa fd C G _ h).1)
  | cmp op a b iha ihb =>
    refine ⟨fun X c k fa fd C G x h => ?_, noL fun _ _ => rfl, noI fun _ _ => rfl⟩
    unfold ckE at h
    split at h <;> first | (cases h; done) | skip
    simp only [Bool.and_eq_true, decide_eq_true_eq, Bool.not_eq_true'] at h
    obtain ⟨rfl, h0, h1, h2⟩ := h
    exact se_cmp G.u65 (iha.1 X c k fa fd C G _ h1).1 (ihb.1 X c k fa fd C G _ h2).1 h0
  | chain o1 o2 a b d iha ihb ihd =>
    refine ⟨fun X c k fa fd C G x h => ?_, noL fun _ _ => rfl, noI fun _ _ => rfl⟩
    unfold ckE at h
    split at h <;> first | (cases h; done) | skip
    simp only [Bool.and_eq_true, decide_eq_true_eq, Bool.not_eq_true'] at h
    obtain ⟨rfl, rfl, h0, h1, h2, h3⟩ := h
    exact se_chain G.u65 (iha.1 X c k fa fd C G _ h1).1 (ihb.1 X c k fa fd C G _ h2).1 (ihd.1 X c k fa fd C G _ h3).1 h0
  | isN a ih =>
    refine ⟨fun X c k fa fd C G x h => ?_, noL fun _ _ => rfl, noI fun _ _ => rfl⟩
    unfold ckE at h
    split at h <;> first | (cases h; done) | skip
    exact se_isN (ih.1 X c k fa fd C G _ h).1
  | notN a ih =>
    refine ⟨fun X c k fa fd C G x h => ?_, noL fun _ _ => rfl, noI fun _ _ => rfl⟩
    unfold ckE at h
    split at h <;> first | (cases h; done) | skip
    exact se_notN (ih.1 X c k fa fd C G _ h).1
  | isB neg b a ih =>
    refine ⟨fun X c k fa fd C G x h => ?_, noL fun _ _ => rfl, noI fun _ _ => rfl⟩
    unfold ckE at h
    split at h <;> first | (cases h; done) | skip
    simp only [Bool.and_eq_true, decide_eq_true_eq] at h
    obtain ⟨rfl, rfl, h1⟩ := h
    exact se_isB (ih.1 X c k fa fd C G _ h1).1
  | ands es ih =>
    refine ⟨fun X c k fa fd C G x h => ?_, noL fun _ _ => rfl, noI fun _ _ => rfl⟩
    unfold ckE at h
    split at h <;> first | (cases h; done) | skip
    simp only [Bool.and_eq_true, Bool.not_eq_true'] at h
    obtain ⟨h0, h1⟩ := h
    obtain ⟨⟨t, p, q⟩, _, v, _⟩ := (ih.2.1 X c k fa fd C G _ h1).2.2.1 (by intro z; rw [z] at h0; cases h0) _
    exact ⟨v, ⟨_, p.pt, q⟩⟩
  | ors es ih =>
    refine ⟨fun X c k fa fd C G x h => ?_, noL fun _ _ => rfl, noI fun _ _ => rfl⟩
    unfold ckE at h
    split at h <;> first | (cases h; done) | skip
    simp only [Bool.and_eq_true, Bool.not_eq_true'] at h
    obtain ⟨h0, h1⟩ := h
    obtain ⟨_, ⟨t, p, q⟩, _, v⟩ := (ih.2.1 X c k fa fd C G _ h1).2.2.1 (by intro z; rw [z] at h0; cases h0) _
    exact ⟨v, ⟨_, p.pt, q⟩⟩
  | not a ih =>
    refine ⟨fun X c k fa fd C G x h => ?_, noL fun _ _ => rfl, noI fun _ _ => rfl⟩
    unfold ckE at h
    split at h <;> first | (cases h; done) | skip
    exact se_not (ih.1 X c k fa fd C G _ h)
  | ite d a b ihd iha ihb =>
    refine ⟨fun X c k fa fd C G x h => ?_, noL fun _ _ => rfl, noI fun _ _ => rfl⟩
    unfold ckE at h
    split at h <;> first | (cases h; done) | skip
    simp only [Bool.and_eq_true] at h
    obtain ⟨h1, h2, h3⟩ := h
    exact ⟨se_ite (ihd.1 X c k fa fd C G _ h1).2 (iha.1 X c k fa fd C G _ h2).1 (ihb.1 X c k fa fd C G _ h3).1, ⟨fun _ _ _ => False, ⟨fun _ _ _ _ _ _ z => z.elim⟩, fun _ _ _ _ _ _ _ _ z _ => z⟩⟩
  | dget o k d iho ihk ihd =>
    refine ⟨fun X c kk fa fd C G x h => ?_, noL fun _ _ => rfl, noI fun _ _ => rfl⟩
    unfold ckE at h
    split at h <;> first | (cases h; done) | skip
    simp only [Bool.and_eq_true, decide_eq_true_eq, Bool.not_eq_true'] at h
    obtain ⟨rfl, h1, h2, h3, h4, h5, h6, h7⟩ := h
    exact .ofE rfl (se_dget G.u66 h3 h4 h1 h2 (iho.1 X c kk fa fd C G _ h5).1 (ihk.1 X c kk fa fd C G _ h6).1 (ihd.1 X c kk fa fd C G _ h7).1)
  | dget1 o k iho ihk =>
    refine ⟨fun X c kk fa fd C G x h => ?_, noL fun _ _ => rfl, noI fun _ _ => rfl⟩
    unfold ckE at h
    split at h <;> first | (cases h; done) | skip
    simp only [Bool.and_eq_true, decide_eq_true_eq, Bool.not_eq_true'] at h
    obtain ⟨rfl, h1, h2, h3, h5, h6⟩ := h
    exact .ofE rfl (se_dget1 G.u66 h3 h1 h2 (iho.1 X c kk fa fd C G _ h5).1 (ihk.1 X c kk fa fd C G _ h6).1)
  | ix a i iha ihi =>
    refine ⟨fun X c k fa fd C G x h => ?_, noL fun _ _ => rfl, noI fun _ _ => rfl⟩
    unfold ckE at h
    split at h <;> first | (cases h; done) | skip
    simp only [Bool.and_eq_true] at h
    obtain ⟨h0, h1, h2⟩ := h
    exact .ofE rfl (se_ix G.u66 h0 (iha.1 X c k fa fd C G _ h1).1 (ihi.1 X c k fa fd C G _ h2).1)
  | slice a lo hi iha ihl ihh =>
    refine ⟨fun X c k fa fd C G x h => ?_, noL fun _ _ => rfl, noI fun _ _ => rfl⟩
    unfold ckE at h
    split at h <;> first | (cases h; done) | skip
    rw [Bool.and_eq_true, Bool.and_eq_true] at h
    obtain ⟨h1, h2, h3⟩ := h
    have part : ∀ {e : E} {l : Option Expr}, SndE e → (match l with | none => isNil e | some y => !isNil e && ckE e c y) = true → SO X (partW e (w C e).e) l := fun {e l} s h => by
      cases l with
      | none =>
        have h : isNil e = true := h
        have e2 : partW e (w C e).e = fun _ M Q => Q none M := by
          unfold partW
          funext σ M Q
          rw [if_pos h]
        rw [e2]
        exact so_none
      | some y =>
        have h : (!isNil e && ckE e c y) = true := h
        rw [Bool.and_eq_true] at h
        have e2 : partW e (w C e).e = fun σ M Q => (w C e).e σ M fun x M1 => ∃ i, x = .int i ∧ Q (some i) M1 := by
          unfold partW
          funext σ M Q
          rw [if_neg (by simpa using h.1)]
        rw [e2]
        exact so_some (s X c k fa fd C G _ h.2).1
    exact .ofE rfl (se_slice (iha.1 X c k fa fd C G _ h1).1 (part ihl.1 h2) (part ihh.1 h3))
  | call f es ih =>
    refine ⟨fun X c k fa fd C G x h => ?_, noL fun _ _ => rfl, noI fun _ _ => rfl⟩
    unfold ckE at h
    split at h <;> first | (cases h; done) | skip
    rename_i e x p xs pos
    rw [Bool.and_eq_true] at h
    obtain ⟨h1, h2⟩ := h
    unfold gFn at h1
    rw [Bool.and_eq_true, Bool.and_eq_true] at h1
    obtain ⟨h3, h4, h5⟩ := h1
    obtain ⟨o1, _, _⟩ := okN_of h5
    cases hd : c.T[f]? with
    | none => rw [hd] at h3; cases h3
    | some d =>
      rw [hd] at h3
      simp only [Bool.and_eq_true, decide_eq_true_eq] at h3
      obtain ⟨hcl, rfl, h3⟩ := h3
      obtain ⟨g1, g2, g3, g4⟩ := G.fns f d hd
      have g1 := g1 hcl
      obtain ⟨sa, ns, _, hn, _⟩ := ih.2.1 X c k fa fd C G _ h2
      cases xs with
      | nil =>
        have e := hn rfl
        subst e
        exact .ofE rfl (se_call0 (fn0_of X.z g4) G.room0 (gl_of G h4) g1 g2 g3 o1)
      | cons y ys => exact .ofE rfl (se_call (fn0_of X.z g4) G.room0 (gl_of G h4) g1 g2 g3 o1 ns sa)
  | xfd f i cs => exact ⟨noE fun _ _ => rfl, noL fun _ _ => rfl, noI fun _ _ => rfl⟩
  | isx i yes no => exact ⟨noE fun _ _ => rfl, noL fun _ _ => rfl, noI fun _ _ => rfl⟩
  | callX f es ih =>
    refine ⟨fun X c k fa fd C G x h => ?_, noL fun _ _ => rfl, noI fun _ _ => rfl⟩
    unfold ckE at h
    split at h <;> first | (cases h; done) | skip
    rename_i e x p xs pos
    rw [Bool.and_eq_true, Bool.and_eq_true, Bool.and_eq_true] at h
    obtain ⟨hxs, h1, hne, h2⟩ := h
    unfold gFn at h1
    rw [Bool.and_eq_true, Bool.and_eq_true] at h1
    obtain ⟨h3, h4, h5⟩ := h1
    obtain ⟨o1, _, _⟩ := okN_of h5
    cases hd : c.T[f]? with
    | none => rw [hd] at h3; cases h3
    | some d =>
      rw [hd] at h3
      simp only [Bool.and_eq_true, decide_eq_true_eq] at h3
      obtain ⟨hcl, rfl, h3⟩ := h3
      obtain ⟨g1, g2, g3, g4⟩ := G.fns f d hd
      have g1 := g1 hcl
      obtain ⟨sa, ns, _, hn, _⟩ := ih.2.1 X c k fa fd C G _ h2
      exact .ofE rfl (se_callX g4 G.room0 (gl_of G h4) g1 g2 g3 (G.tk hxs) o1 (by intro z; rw [z] at hne; cases hne) ns sa)
  | blt f es ih =>
    refine ⟨fun X c k fa fd C G x h => ?_, noL fun _ _ => rfl, noI fun _ _ => rfl⟩
    unfold ckE at h
    split at h <;> first | (cases h; done) | skip
    rename_i e x p xs pos
    rw [Bool.and_eq_true, Bool.and_eq_true, Bool.and_eq_true] at h
    obtain ⟨h1, h2, h3, h4⟩ := h
    obtain ⟨v, hv⟩ := Option.isSome_iff_exists.mp h2
    obtain ⟨b1, b2⟩ := boot_of hv
    obtain ⟨e1, e2, e3, e4, e5⟩ := gBl_of G h1 b2
    obtain ⟨sa, ns, _, hn, _⟩ := ih.2.1 X c k fa fd C G _ h4
    cases xs with
    | nil => cases h3
    | cons y ys => exact .ofE rfl (se_blt G.calm G.u66 hv e2 e3 (by rw [e1]; exact b1) e5 e4 ns sa)
  | mth m o es iho ih =>
    refine ⟨fun X c k fa fd C G x h => ?_, noL fun _ _ => rfl, noI fun _ _ => rfl⟩
    unfold ckE at h
    split at h <;> first | (cases h; done) | skip
    rename_i e y a apos xs pos
    rw [Bool.and_eq_true, Bool.and_eq_true, Bool.and_eq_true, Bool.and_eq_true, Bool.and_eq_true] at h
    obtain ⟨h1, h2, h3, h4, h5, h6⟩ := h
    cases hm : mfnT m with
    | none => rw [hm] at h1; cases h1
    | some t =>
      rw [hm] at h1
      obtain ⟨T, n, id⟩ := t
      obtain rfl : a = n := of_decide_eq_true h1
      obtain ⟨sa, ns, _, hn, _⟩ := ih.2.1 X c k fa fd C G _ h6
      exact .ofE rfl (se_mth G.u66 hm ns (of_decide_eq_true h4) h2 h3 (iho.1 X c k fa fd C G _ h5).1 sa fun z => by rw [hn z]; rfl)
  | isinst a t ih =>
    refine ⟨fun X c k fa fd C G x h => ?_, noL fun _ _ => rfl, noI fun _ _ => rfl⟩
    unfold ckE at h
    split at h <;> first | (cases h; done) | skip
    rw [Bool.and_eq_true, Bool.and_eq_true, Bool.and_eq_true, Bool.and_eq_true] at h
    obtain ⟨h1, h2, h3, h4, h5⟩ := h
    obtain ⟨e1, e2, e3, e4, e5⟩ := gBl_of G h1 (by decide +kernel)
    have ht2 : Str.ofString t ∈ bltNames := by
      have h3 := h3
      unfold tyOk at h3
      simp only [Bool.or_eq_true, beq_iff_eq] at h3
      rcases h3 with (((h | h) | h) | h) | h <;> subst h <;> decide +kernel
    obtain ⟨f1, f2, f3, f4, f5⟩ := gBl_of G h2 ht2
    exact se_isinst h3 e1 f1 e2 e3 f2 f3 (by simpa using h4) (ih.1 X c k fa fd C G _ h5).1
  | comp own tg it cnd elt ih1 ih2 ih3 =>
    refine ⟨fun X c k fa fd C G x h => ?_, noL fun _ _ => rfl, noI fun _ _ => rfl⟩
    unfold ckE at h
    split at h <;> first | (cases h; done) | skip
    rename_i e x g itx ifs is_ scope pos
    rw [Bool.and_eq_true, Bool.and_eq_true, Bool.and_eq_true, Bool.and_eq_true, Bool.and_eq_true, Bool.and_eq_true, Bool.and_eq_true, Bool.and_eq_true] at h
    obtain ⟨h1, ⟨hen, h2⟩, h3, h4, h5, h6, h7, h8⟩ := h
    obtain rfl : is_ = 0 := of_decide_eq_true h1
    have co := compOk_of G ih2.1 ih3.1 h4 (of_decide_eq_true h5) h6 h7 h8
    rcases ih1.2.2 X c k fa fd C G itx g h2 hen with hi | ⟨i, rfl, hi⟩
    · exact .ofE rfl (se_comp hi co h3)
    · exact .ofE rfl (se_compK hi co h3)
  | comp2 own tg it tg1 it1 cnd elt ih1 ihI ih2 ih3 =>
    refine ⟨fun X c k fa fd C G x h => ?_, noL fun _ _ => rfl, noI fun _ _ => rfl⟩
    unfold ckE at h
    split at h <;> first | (cases h; done) | skip
    rename_i e x g itx is_ g1 itx1 ifs1 is1 scope pos
    rw [Bool.and_eq_true, Bool.and_eq_true, Bool.and_eq_true, Bool.and_eq_true, Bool.and_eq_true, Bool.and_eq_true, Bool.and_eq_true, Bool.and_eq_true, Bool.and_eq_true, Bool.and_eq_true, Bool.and_eq_true, Bool.and_eq_true, Bool.and_eq_true, Bool.and_eq_true, Bool.and_eq_true, Bool.and_eq_true] at h
    obtain ⟨h1, h2, ⟨h3, h4, h5⟩, ⟨h6, h7, h8⟩, ⟨h9, h10⟩, h11, ⟨h12, h13⟩, ⟨h14, h15⟩, h16, h17⟩ := h
    obtain rfl : is_ = 0 := of_decide_eq_true h1
    obtain rfl : is1 = 0 := of_decide_eq_true h2
    obtain ⟨co, hi⟩ := comp2_of G ih1.2.2 ihI.2.2 ih2.1 ih3.1 (by simpa using h3) h4 h5 (by simpa using h6) h7 h8 h11 (fun i hi => of_decide_eq_true (List.all_eq_true.mp h12 i hi)) (fun i hi => of_decide_eq_true (List.all_eq_true.mp h13 i hi)) h14 h15 h16 h17
    exact .ofE rfl (se_comp2 hi co h9 h10)
  | dcompN own tg it cnd ky vl ih1 ih2 ih3 ih4 =>
    refine ⟨fun X c k fa fd C G x h => ?_, noL fun _ _ => rfl, noI fun _ _ => rfl⟩
    unfold ckE at h
    split at h <;> first | (cases h; done) | skip
    rename_i e x y g itx ifs is_ scope pos
    rw [Bool.and_eq_true, Bool.and_eq_true, Bool.and_eq_true, Bool.and_eq_true, Bool.and_eq_true, Bool.and_eq_true, Bool.and_eq_true, Bool.and_eq_true, Bool.and_eq_true, Bool.and_eq_true] at h
    obtain ⟨h1, ⟨hen, h2⟩, hnk, h3, h4, h5, h6, h7, h8, h9⟩ := h
    obtain rfl : is_ = 0 := of_decide_eq_true h1
    have co := compOk_of G ih2.1 ih3.1 h4 (of_decide_eq_true h5) h6 h7 h8
    have co2 := compOk_of G ih2.1 ih4.1 h4 (of_decide_eq_true h5) h6 h7 h9
    rcases ih1.2.2 X c k fa fd C G itx g h2 hen with hi | ⟨i, rfl, hi⟩
    · exact .ofE rfl (se_dcompN G.u66 hi co co2 h3)
    · cases hnk
  | fld f o ih =>
    refine ⟨fun X c k fa fd C G x h => ?_, noL fun _ _ => rfl, noI fun _ _ => rfl⟩
    unfold ckE at h
    split at h <;> first | (cases h; done) | skip
    simp only [Bool.and_eq_true, decide_eq_true_eq] at h
    obtain ⟨rfl, h1, h2⟩ := h
    exact .ofE rfl (se_fld h1 (ih.1 X c k fa fd C G _ h2).1)
  | meth cn m f o es iho ih =>
    refine ⟨fun X c k fa fd C G x h => ?_, noL fun _ _ => rfl, noI fun _ _ => rfl⟩
    unfold ckE at h
    split at h <;> first | (cases h; done) | skip
    rename_i e y a apos xs pos
    simp only [Bool.and_eq_true, decide_eq_true_eq] at h
    obtain ⟨rfl, h1, h0, h2, h3, h4, h5, h6⟩ := h
    obtain ⟨cd, hcd, hcn, p, hp, rfl⟩ : ∃ cd, cd ∈ c.cs ∧ cd.name = cn ∧ ∃ p ∈ cd.mets, p = (a, f) := by
      unfold hasMeth at h1
      obtain ⟨cd, h7, h8⟩ := List.any_eq_true.mp h1
      rw [Bool.and_eq_true] at h8
      obtain ⟨p, h9, h10⟩ := List.any_eq_true.mp h8.2
      exact ⟨cd, h7, of_decide_eq_true h8.1, p, h9, of_decide_eq_true h10⟩
    subst hcn
    obtain ⟨d, hd⟩ := Option.isSome_iff_exists.mp h0
    obtain ⟨_, g2, g3, g4⟩ := G.fns f d hd
    have ck := G.clss cd hcd
    obtain ⟨sa, ns, _, hn, _⟩ := ih.2.1 X c k fa fd C G _ h6
    exact .ofE rfl (se_meth (fn0_of X.z g4) G.room0 ck.cls (ck.mets _ hp) g3 ns h4 h2 h3 (iho.1 X c k fa fd C G _ h5).1 sa fun z => by rw [hn z]; rfl)
  | make cn f es ih =>
    refine ⟨fun X c k fa fd C G x h => ?_, noL fun _ _ => rfl, noI fun _ _ => rfl⟩
    unfold ckE at h
    split at h <;> first | (cases h; done) | skip
    simp only [Bool.and_eq_true, decide_eq_true_eq] at h
    obtain ⟨rfl, h1, h0, ⟨h2, h3⟩, h4⟩ := h
    obtain ⟨cd, hcd, hcn, hi⟩ : ∃ cd, cd ∈ c.cs ∧ cd.name = _ ∧ cd.init = some f := by
      unfold hasInit at h1
      obtain ⟨cd, h7, h8⟩ := List.any_eq_true.mp h1
      rw [Bool.and_eq_true] at h8
      exact ⟨cd, h7, of_decide_eq_true h8.1, of_decide_eq_true h8.2⟩
    subst hcn
    obtain ⟨d, hd⟩ := Option.isSome_iff_exists.mp h0
    obtain ⟨_, g2, g3, g4⟩ := G.fns f d hd
    have ck := G.clss cd hcd
    obtain ⟨sa, ns, _, hn, _⟩ := ih.2.1 X c k fa fd C G _ h4
    exact .ofE rfl (se_make (ck.init f hi).1 (fn0_of X.z g4) G.room (gl_of G h2) (ck.init f hi).2 ck.cls g3 (okN_of h3).1 ns sa fun z => by rw [hn z]; rfl)
  | prop cn m f o ih =>
    refine ⟨fun X c k fa fd C G x h => ?_, noL fun _ _ => rfl, noI fun _ _ => rfl⟩
    unfold ckE at h
    split at h <;> first | (cases h; done) | skip
    simp only [Bool.and_eq_true, decide_eq_true_eq] at h
    obtain ⟨rfl, h1, h0, h2, h3⟩ := h
    obtain ⟨cd, hcd, hcn, p, hp, rfl⟩ : ∃ cd, cd ∈ c.cs ∧ cd.name = cn ∧ ∃ p ∈ cd.prps, p = (_, f) := by
      unfold hasProp at h1
      obtain ⟨cd, h7, h8⟩ := List.any_eq_true.mp h1
      rw [Bool.and_eq_true] at h8
      obtain ⟨p, h9, h10⟩ := List.any_eq_true.mp h8.2
      exact ⟨cd, h7, of_decide_eq_true h8.1, p, h9, of_decide_eq_true h10⟩
    subst hcn
    obtain ⟨d, hd⟩ := Option.isSome_iff_exists.mp h0
    obtain ⟨_, g2, g3, g4⟩ := G.fns f d hd
    have ck := G.clss cd hcd
    obtain ⟨pa, hpp⟩ := ck.prps _ hp
    exact .ofE rfl (se_prop (fn0_of X.z g4) G.room ck.cls hpp g3 h2 (ih.1 X c k fa fd C G _ h3).1)
  | setdef o k d iho ihk ihd =>
    refine ⟨fun X c kk fa fd C G x h => ?_, noL fun _ _ => rfl, noI fun _ _ => rfl⟩
    unfold ckE at h
    split at h <;> first | (cases h; done) | skip
    simp only [Bool.and_eq_true, decide_eq_true_eq, Bool.not_eq_true'] at h
    obtain ⟨rfl, h1, h2, h3, h4, h5, h6, h7⟩ := h
    exact .ofE rfl (se_setdef h3 h4 h1 h2 (iho.1 X c kk fa fd C G _ h5).1 (ihk.1 X c kk fa fd C G _ h6).1 (ihd.1 X c kk fa fd C G _ h7).1)
  | lrng t a b iha ihb =>
    refine ⟨fun X c k fa fd C G x h => ?_, noL fun _ _ => rfl, noI fun _ _ => rfl⟩
    have inL : ((if t then "tuple" else "list") : Str) ∈ bltNames := by cases t <;> decide +kernel
    unfold ckE at h
    split at h <;> first | (cases h; done) | skip
    · simp only [Bool.and_eq_true, Bool.not_eq_true'] at h
      obtain ⟨h1, h2, h3, h4, h5⟩ := h
      obtain ⟨e1, e2, e3, _, _⟩ := gBl_of G h1 inL
      obtain ⟨f1, f2, f3, _, _⟩ := gBl_of G h2 (by decide +kernel)
      have ep : partW a (w C a).e = fun _ M Q => Q none M := by
        unfold partW
        funext σ M Q
        rw [if_pos h4]
      refine .ofE rfl ?_
      rw [ep]
      exact se_lrng1 (t := t) G.calm e1 f1 e2 e3 f2 f3 h3 (ihb.1 X c k fa fd C G _ h5).1
    · simp only [Bool.and_eq_true, Bool.not_eq_true'] at h
      obtain ⟨h1, h2, h3, h4, h5, h6, h7⟩ := h
      obtain ⟨e1, e2, e3, _, _⟩ := gBl_of G h1 inL
      obtain ⟨f1, f2, f3, _, _⟩ := gBl_of G h2 (by decide +kernel)
      have ep : partW a (w C a).e = fun σ M Q => (w C a).e σ M fun x M1 => ∃ i, x = .int i ∧ Q (some i) M1 := by
        unfold partW
        funext σ M Q
        rw [if_neg (by rw [h5]; decide)]
      refine .ofE rfl ?_
      rw [ep]
      exact se_lrng2 (t := t) G.calm e1 f1 e2 e3 f2 f3 h3 h4 (iha.1 X c k fa fd C G _ h6).1 (ihb.1 X c k fa fd C G _ h7).1
  | tidx o a iho iha =>
    refine ⟨fun X c k fa fd C G x h => ?_, noL fun _ _ => rfl, noI fun _ _ => rfl⟩
    unfold ckE at h
    split at h <;> first | (cases h; done) | skip
    simp only [Bool.and_eq_true, decide_eq_true_eq, Bool.not_eq_true'] at h
    obtain ⟨rfl, h1, h2, h3, h4, h5⟩ := h
    exact .ofE rfl (se_tidx h3 h1 h2 (iho.1 X c k fa fd C G _ h4).1 (iha.1 X c k fa fd C G _ h5).1)
  | gint x i =>
    refine ⟨fun X c k fa fd C G x h => ?_, noL fun _ _ => rfl, noI fun _ _ => rfl⟩
    unfold ckE at h
    split at h <;> first | (cases h; done) | skip
    simp only [Bool.and_eq_true, decide_eq_true_eq] at h
    obtain ⟨rfl, ⟨h1, h2⟩, h3⟩ := h
    obtain ⟨p, hp, e⟩ := List.any_eq_true.mp h3
    have e := of_decide_eq_true e
    subst e
    obtain ⟨t, ht⟩ := G.kints _ hp
    exact .ofE rfl (se_gl (v := .int i) (gl_of G h1) ht ⟨t, rfl⟩ (fun _ => .int i) (okN_of h2).1)
  | gstr x i =>
    refine ⟨fun X c k fa fd C G x h => ?_, noL fun _ _ => rfl, noI fun _ _ => rfl⟩
    unfold ckE at h
    split at h <;> first | (cases h; done) | skip
    simp only [Bool.and_eq_true, decide_eq_true_eq] at h
    obtain ⟨rfl, ⟨h1, h2⟩, h3⟩ := h
    obtain ⟨p, hp, e⟩ := List.any_eq_true.mp h3
    have e := of_decide_eq_true e
    subst e
    obtain ⟨t, ht⟩ := G.kstrs _ hp
    exact .ofE rfl (se_gl (v := .str i) (gl_of G h1) ht ⟨t, rfl⟩ (fun _ => .str i) (okN_of h2).1)
  | gdat x i =>
    refine ⟨fun X c k fa fd C G x h => ?_, noL fun _ _ => rfl, noI fun _ _ => rfl⟩
    unfold ckE at h
    split at h <;> first | (cases h; done) | skip
    simp only [Bool.and_eq_true, decide_eq_true_eq] at h
    obtain ⟨rfl, ⟨h1, h2⟩, h3⟩ := h
    obtain ⟨p, hp, e⟩ := List.any_eq_true.mp h3
    have e := of_decide_eq_true e
    subst e
    obtain ⟨z, v, ha, hv, hk⟩ := G.kdats _ hp
    exact .ofE rfl (se_gl (v := v) (gl_of G h1) ha hv hk (okN_of h2).1)
  | sset a ih =>
    refine ⟨fun X c k fa fd C G x h => ?_, noL fun _ _ => rfl, noI fun _ _ => rfl⟩
    unfold ckE at h
    split at h <;> first | (cases h; done) | skip
    simp only [Bool.and_eq_true, Bool.not_eq_true'] at h
    obtain ⟨h1, h2, h3, h4⟩ := h
    obtain ⟨e1, e2, e3, _, _⟩ := gBl_of G h1 (by decide +kernel)
    obtain ⟨f1, f2, f3, _, _⟩ := gBl_of G h2 (by decide +kernel)
    exact .ofE rfl (se_sset G.calm G.u66 e1 f1 e2 e3 f2 f3 h3 (ih.1 X c k fa fd C G _ h4).1)
  | dgetN o k d iho ihk ihd =>
    refine ⟨fun X c kk fa fd C G x h => ?_, noL fun _ _ => rfl, noI fun _ _ => rfl⟩
    unfold ckE at h
    split at h <;> first | (cases h; done) | skip
    simp only [Bool.and_eq_true, decide_eq_true_eq, Bool.not_eq_true'] at h
    obtain ⟨rfl, h1, h2, ⟨h3, h3'⟩, h5, h6, h7⟩ := h
    exact .ofE rfl (se_dgetN G.u66 h3 h3' h1 h2 (iho.1 X c kk fa fd C G _ h5).1 (ihk.1 X c kk fa fd C G _ h6).1 (ihd.1 X c kk fa fd C G _ h7).1)
  | gtup x i =>
    refine ⟨fun X c k fa fd C G x h => ?_, noL fun _ _ => rfl, noI fun _ _ => rfl⟩
    unfold ckE at h
    split at h <;> first | (cases h; done) | skip
    simp only [Bool.and_eq_true, decide_eq_true_eq] at h
    obtain ⟨rfl, ⟨h1, h2⟩, h3⟩ := h
    obtain ⟨p, hp, e⟩ := List.any_eq_true.mp h3
    have e := of_decide_eq_true e
    subst e
    obtain ⟨a, ha, hk⟩ := G.ktups _ hp
    exact .ofE rfl (se_gl (v := .ref a) (gl_of G h1) ha rfl (fun _ => .tup (.inr hk) (rl_ints0 i)) (okN_of h2).1)
  | iSeq a ih =>
    refine ⟨noE fun _ _ => rfl, noL fun _ _ => rfl, fun X c k fa fd C G x tg h hen => .inl ?_⟩
    exact si_seq (ih.1 X c k fa fd C G _ h).1
  | iStr a ih =>
    refine ⟨noE fun _ _ => rfl, noL fun _ _ => rfl, fun X c k fa fd C G x tg h hen => .inl ?_⟩
    unfold ckI at h
    exact si_str (ih.1 X c k fa fd C G _ h).1
  | iRev a ih =>
    refine ⟨noE fun _ _ => rfl, noL fun _ _ => rfl, fun X c k fa fd C G x tg h hen => .inl ?_⟩
    unfold ckI at h
    split at h <;> first | (cases h; done) | skip
    rw [Bool.and_eq_true, Bool.and_eq_true] at h
    obtain ⟨h1, h2, h3⟩ := h
    obtain ⟨e1, e2, e3, e4, e5⟩ := gBl_of G h1 (by decide +kernel)
    exact si_rev e1 e2 e3 (by simpa using h2) (ih.1 X c k fa fd C G _ h3).1
  | iRange a ih =>
    refine ⟨noE fun _ _ => rfl, noL fun _ _ => rfl, fun X c k fa fd C G x tg h hen => .inl ?_⟩
    unfold ckI at h
    split at h <;> first | (cases h; done) | skip
    rw [Bool.and_eq_true, Bool.and_eq_true] at h
    obtain ⟨h1, h2, h3⟩ := h
    obtain ⟨e1, e2, e3, e4, e5⟩ := gBl_of G h1 (by decide +kernel)
    exact si_rng e1 e2 e3 (by simpa using h2) (ih.1 X c k fa fd C G _ h3).1
  | iRange2 a b iha ihb =>
    refine ⟨noE fun _ _ => rfl, noL fun _ _ => rfl, fun X c k fa fd C G x tg h hen => .inl ?_⟩
    unfold ckI at h
    split at h <;> first | (cases h; done) | skip
    rw [Bool.and_eq_true, Bool.and_eq_true, Bool.and_eq_true, Bool.and_eq_true] at h
    obtain ⟨h1, h2, h3, h4, h5⟩ := h
    obtain ⟨e1, e2, e3, e4, e5⟩ := gBl_of G h1 (by decide +kernel)
    exact si_rng2 e1 e2 e3 (by simpa using h2) (by simpa using h3) (iha.1 X c k fa fd C G _ h4).1 (ihb.1 X c k fa fd C G _ h5).1
  | iZip a b iha ihb =>
    refine ⟨noE fun _ _ => rfl, noL fun _ _ => rfl, fun X c k fa fd C G x tg h hen => .inl ?_⟩
    cases tg <;> first | (cases hen; done) | skip
    unfold ckI at h
    split at h <;> first | (cases h; done) | skip
    rw [Bool.and_eq_true, Bool.and_eq_true, Bool.and_eq_true, Bool.and_eq_true] at h
    obtain ⟨h1, h2, h3, h4, h5⟩ := h
    obtain ⟨e1, e2, e3, e4, e5⟩ := gBl_of G h1 (by decide +kernel)
    exact si_zip e1 e2 e3 (by simpa using h2) (by simpa using h3) (iha.1 X c k fa fd C G _ h4).1 (ihb.1 X c k fa fd C G _ h5).1
  | iEnum a ih =>
    refine ⟨noE fun _ _ => rfl, noL fun _ _ => rfl, fun X c k fa fd C G x tg h hen => .inl ?_⟩
    cases tg <;> first | (cases hen; done) | skip
    unfold ckI at h
    split at h <;> first | (cases h; done) | skip
    rw [Bool.and_eq_true, Bool.and_eq_true] at h
    obtain ⟨h1, h2, h3⟩ := h
    obtain ⟨e1, e2, e3, e4, e5⟩ := gBl_of G h1 (by decide +kernel)
    exact si_enum e1 e2 e3 (by simpa using h2) (ih.1 X c k fa fd C G _ h3).1
  | iKeys a ih =>
    refine ⟨noE fun _ _ => rfl, noL fun _ _ => rfl, fun X c k fa fd C G x tg h hen => .inr ?_⟩
    unfold ckI at h
    split at h <;> first | (cases h; done) | skip
    split at h <;> first | (cases h; done) | skip
    exact ⟨_, rfl, pe_varB G h⟩
end Pl

set_option maxHeartbeats 4000000
/-! what an except suite may say: no calls but isinstance of the error that is held -/
namespace Pl
open PySem L2
/-- within the suite -/
abbrev sX (Y : Cy) (a : Addr) (oe : Obj) (pn : List (Addr × Obj)) : Cy := ⟨Y.toCx.suite a ((a, oe) :: pn), Y.z⟩
structure Gq (Y : Cy) (a : Addr) (oe : Obj) (d : Option Addr) (cn : Str) (c : Ck) (C : CE) : Prop where
  sc : Y.env.scope = c.sc
  N : Y.N = c.N
  nd : c.N.Nodup
  un : Y.A.units + 66 < cLine
  blt : ∀ x ∈ bltNames, Y.mg x = none
  xf : Xf Y.K Y.prog Y.mg c
  kints : ∀ p ∈ c.ks, ∃ t, Y.mg p.1 = some (.int p.2 t)
  fnl : ∀ x, Y.fn x = true
  zc : Zc (.ref (cad Y.K cn)) d oe
  flds : ∃ vs, oe.data = .fields vs
  cur : C.cur = some (a, cn, d)
/-- the error is asked of what classes it is -/
def rIx (K : Fg) (D a : Addr) (d : Option Addr) : List V → Hp → VK → Prop := fun xs H Q => (d = none ∨ ∃ dx fs, d = some dx ∧ H dx = some (.xd fs)) ∧
  ((∃ c u b, xs = [.ref a, c] ∧ ClsV c u ∧ PySem.W.kitAny K (.ref D) [u] = some b ∧ Q (.bl b) H) ∨ ∃ tp cs us b, xs = [.ref a, .ref tp] ∧ H tp = some (.tup cs) ∧ Paired ClsV cs us ∧ PySem.W.kitAny K (.ref D) us = some b ∧ Q (.bl b) H)
theorem any_one {K : Fg} {t u : Value} {b : Bool} (h : PySem.W.kitAny K t [u] = some b) : PySem.W.kitOne K t u = some b := by
  unfold PySem.W.kitAny at h
  cases e : PySem.W.kitOne K t u with
  | none => rw [e] at h; cases h
  | some v =>
    rw [e] at h
    cases v with
    | true => exact h
    | false => exact h
theorem call_isx {Y : L2.Cx} {a D : Addr} {oe : Obj} {d : Option Addr} {pn : List (Addr × Obj)} (T : ExcC Y.K D) (hz : Zc (.ref D) d oe) (hf : ∃ vs, oe.data = .fields vs) : CallR (Y.suite a ((a, oe) :: pn)) (.builtin "isinstance") (rIx Y.K D a d) := by
  intro pins s σ H xs us Q I r h
  obtain ⟨hd, h⟩ := h
  obtain ⟨hget, _⟩ := I.pin (a, oe) (List.mem_append.mpr (.inl List.mem_cons_self))
  obtain ⟨vs, hv⟩ := hf
  obtain ⟨oc, od0, oda, osl⟩ := oe
  obtain ⟨h1, h2⟩ := hz
  dsimp only at h1 h2 hv
  subst h1 h2 hv
  have J : ∃ od : Option Obj, PySem.W.InstAt s.heap a ⟨.ref D, od0, .fields vs, osl⟩ D od := by
    rcases hd with rfl | ⟨dx, fs, rfl, hx⟩
    · exact ⟨none, hget, rfl, rfl, trivial⟩
    · obtain ⟨mA, hns, _⟩ := (show ObjOk Y.prog Y.w H s.heap dx (.xd fs) from I.hok dx _ hx)
      obtain ⟨o, _, _, e, _⟩ := hns
      exact ⟨some o, hget, rfl, rfl, e⟩
  obtain ⟨od, J⟩ := J
  have hcl : (PySem.W.clsIn Y.K D).isSome = true := by obtain ⟨cd, hc, _⟩ := PySem.W.any_some T.hd; rw [hc]; rfl
  have Z := PySem.W.kitx_exc (x := a) (ox := ⟨.ref D, od0, .fields vs, osl⟩) (od := od) hcl T.hg T.hk T.hs T.ha T.hn T.ht T.hm
  rcases h with ⟨c, u, b, rfl, k, e, q⟩ | ⟨tp, cs, ws, b, rfl, hT, k, e, q⟩
  · obtain ⟨u1, u2, rfl, r1, r2⟩ := vals2 r
    cases (show u1 = Value.ref a from r1)
    have e2 := k.eq r2
    subst e2
    exact PySem.W.kia_one Z I.kIn J (any_one e) (fun z => nomatch z) fun tk => ⟨.bl b, H, I.tok tk, rfl, q⟩
  · obtain ⟨u1, u2, rfl, r1, r2⟩ := vals2 r
    cases (show u1 = Value.ref a from r1)
    cases (show u2 = Value.ref tp from r2)
    obtain ⟨_, its, rv, o, h1, h2, n, h3⟩ := (show ObjOk Y.prog Y.w H s.heap tp (.tup cs) from I.hok tp _ hT)
    have e3 := ClsV.all k rv
    subst e3
    obtain ⟨oc, od2, dt, sl⟩ := o
    simp only at h2 h3
    subst h2 h3
    exact PySem.W.kia_tup Z I.kIn J h1 e (fun z => nomatch z) fun tk => ⟨.bl b, H, I.tok tk, rfl, q⟩
/-- a class's value in V -/
def clV (K : Fg) (z : Str) : V := if z = "ValueError" then .ty "ValueError" else .ref (cad K z)
theorem clV_cls (K : Fg) (z : Str) : ClsV (clV K z) (clv K z) := by
  unfold clV clv
  split
  · exact .ty _
  · exact .own _
theorem clV_all (K : Fg) : ∀ zs : List Str, Paired ClsV (zs.map (clV K)) (zs.map (clv K))
  | [] => .nil
  | z :: zs => .cons (clV_cls K z) (clV_all K zs)
/-! the check -/
def clsName (c : Ck) (z : Str) : Bool := (decide (z = "ValueError") || c.xnm.any fun y => decide (y = z)) && (glB c.sc z && okN z)
def clsNames (c : Ck) : List Str → List Expr → Bool
  | [], [] => true
  | z :: zs, .Name y _ :: es => decide (y = z) && (clsName c z && clsNames c zs es)
  | _, _ => false
/-- the classes asked for -/
def clsList : Expr → List Str
  | .Name y _ => [y]
  | .Tuple es _ _ => es.map fun e => match e with | .Name y _ => y | _ => ""
  | _ => []
def clsArg (c : Ck) : Expr → Bool
  | .Name y _ => clsName c y
  | .Tuple es _ _ => clsNames c (clsList (.Tuple es 0 ⟨0, 0, 0, 0⟩)) es && decide (es.length ≤ 20)
  | _ => false
mutual
def ckQ : E → Ck → Expr → Bool
  | .var i, c, e => (match e with | .Name x _ => varB c i x | _ => false)
  | .int i, _, e => (match e with | .Constant (.int j) _ _ => decide (i = j) | _ => false)
  | .str i, _, e => (match e with | .Constant (.str j) _ _ => decide (i = j) | _ => false)
  | .bl i, _, e => (match e with | .Constant (.bool j) _ _ => decide (i = j) | _ => false)
  | .non, _, e => (match e with | .Constant .none _ _ => true | _ => false)
  | .tup es, c, e => (match e with | .Tuple xs _ _ => ckQL es c xs | _ => false)
  | .cmp op a b, c, e => (match e with | .Compare x [o] [y] _ => decide (o = copOf op) && (!behindInMarks o y && (ckQ a c x && ckQ b c y)) | _ => false)
  | .isN a, c, e => (match e with | .Compare x [.Is] [.Constant .none _ _] _ => ckQ a c x | _ => false)
  | .notN a, c, e => (match e with | .Compare x [.IsNot] [.Constant .none _ _] _ => ckQ a c x | _ => false)
  | .ands es, c, e => (match e with | .BoolOp .And xs _ => !xs.isEmpty && ckQL es c xs | _ => false)
  | .ors es, c, e => (match e with | .BoolOp .Or xs _ => !xs.isEmpty && ckQL es c xs | _ => false)
  | .not a, c, e => (match e with | .UnaryOp .Not x _ => ckQ a c x | _ => false)
  | .ite d a b, c, e => (match e with | .IfExp x y z _ => ckQ d c x && (ckQ a c y && ckQ b c z) | _ => false)
  | .xfd f i cs, c, e => (match e with | .Attribute (.Name x _) g _ => decide (g = f) && (varB c i x && cs.all fun z => c.xcl.any fun p => decide (p = (z, some f))) | _ => false)
  | .isx i yes no, c, e => (match e with | .Call (.Name x _) [.Name y _, t] [] _ => gBl c "isinstance" x && (varB c i y && (clsArg c t && ((c.isxs.any fun p => decide (p = (clsList t, yes, no))) && (yes ++ no).all fun z => c.xcl.any fun p => decide (p.1 = z)))) | _ => false)
  | .gint x i, c, e => (match e with | .Name y _ => decide (y = x) && ((glB c.sc x && okN x) && c.ks.any fun p => decide (p = (x, i))) | _ => false)
  | _, _, _ => false
def ckQL : E → Ck → List Expr → Bool
  | .nil, _, xs => xs.isEmpty
  | .cons a b, c, xs => (match xs with | x :: xs => !isStar x && (ckQ a c x && ckQL b c xs) | [] => false)
  | _, _, _ => false
end
section
variable {Y : Cy} {a : Addr} {oe : Obj} {d : Option Addr} {cn : Str} {c : Ck} {C : CE} {pn : List (Addr × Obj)}
theorem Gq.vis (G : Gq Y a oe d cn c C) {x : Str} (h : visB c.sc x = true) : Vis (sX Y a oe pn).env.scope x := by
  show Vis Y.env.scope x
  rw [G.sc]
  unfold visB at h
  unfold Vis
  split at h
  · exact .inl (by assumption)
  · exact .inr (.inl (by assumption))
  · exact .inr (.inr (by assumption))
  · cases h
theorem Gq.gl (G : Gq Y a oe d cn c C) {x : Str} (h : glB c.sc x = true) : Gl (sX Y a oe pn) x := by
  show Y.env.scope.names.lookup x = some .globalImplicit
  rw [G.sc]
  unfold glB at h
  split at h
  · assumption
  · cases h
theorem Gq.var (G : Gq Y a oe d cn c C) {i : Nat} {x : Str} {pos : Pos} (h : varB c i x = true) : PE (sX Y a oe pn) (.Name x pos) (tVar i) := by
  unfold varB at h
  simp only [Bool.and_eq_true, decide_eq_true_eq] at h
  obtain ⟨z1, z2, _⟩ := okN_of h.2
  exact pe_var (X := sX Y a oe pn) (by show Y.N[i]? = some x; rw [G.N]; exact h.1.1) (G.vis h.1.2) z1 z2
theorem Gq.cls (G : Gq Y a oe d cn c C) {z : Str} {pos : Pos} (h : clsName c z = true) : PE (sX Y a oe pn) (.Name z pos) (tC (clV Y.K z)) := by
  unfold clsName at h
  rw [Bool.and_eq_true, Bool.and_eq_true] at h
  obtain ⟨h1, h2, h3⟩ := h
  obtain ⟨z1, z2, z3⟩ := okN_of h3
  by_cases hz : z = "ValueError"
  · subst hz
    have e : clV Y.K "ValueError" = .ty "ValueError" := if_pos rfl
    rw [e]
    exact pe_bltn (X := sX Y a oe pn) (G.gl h2) (G.blt _ (by decide +kernel)) PyProof.Rows.Boot.«ValueError» rfl z3 z1
  · have e : clV Y.K z = .ref (cad Y.K z) := if_neg hz
    rw [e]
    rw [Bool.or_eq_true, decide_eq_true_eq] at h1
    rcases h1 with h1 | h1
    · exact absurd h1 hz
    · obtain ⟨y, hy, ey⟩ := List.any_eq_true.mp h1
      have ey := of_decide_eq_true ey
      subst ey
      exact pe_glob (X := sX Y a oe pn) (G.gl h2) (G.xf.nms _ hy) rfl z1
/-- a row of classes -/
def tCls (vs : List V) : TA := fun _ H Q => Q vs H
theorem Gq.clss (G : Gq Y a oe d cn c C) : ∀ {zs : List Str} {es : List Expr}, clsNames c zs es = true → PA (sX Y a oe pn) es (tCls (zs.map (clV Y.K))) ∧ es.all (fun e => !isStar e) = true
  | [], [], _ => ⟨pa_nil, rfl⟩
  | z :: zs, e :: es, h => by
    cases e <;> first | (simp [clsNames] at h; done) | skip
    rename_i y p
    unfold clsNames at h
    rw [Bool.and_eq_true, Bool.and_eq_true, decide_eq_true_eq] at h
    obtain ⟨rfl, h2, h3⟩ := h
    obtain ⟨q1, q2⟩ := G.clss h3
    exact ⟨pa_cons (G.cls h2) q1 rfl, by rw [List.all_cons, q2]; rfl⟩
  | [], _ :: _, h => by simp [clsNames] at h
  | _ :: _, [], h => by simp [clsNames] at h
end
section
variable {Y : Cy} {a : Addr} {oe : Obj} {d : Option Addr} {cn : Str} {c : Ck} {C : CE} {pn : List (Addr × Obj)}
theorem se_xfd (G : Gq Y a oe d cn c C) {f : Str} {i : Nat} {cs : List Str} {x : Str} {p pos : Pos} (hx : varB c i x = true) (hcs : cs.all (fun z => c.xcl.any fun p => decide (p = (z, some f))) = true) :
    SE1 (sX Y a oe pn) (fun σ M Q => ∃ a cn d fs v, C.cur = some (a, cn, some d) ∧ cn ∈ cs ∧ σ[i]? = some (some (.ref a)) ∧ M d = some (.exd fs) ∧ fs.lookup f = some v ∧ Q v M) (.Attribute (.Name x p) f pos) := by
  by_cases hin : cn ∈ cs
  · obtain ⟨q, hq, eq⟩ := List.any_eq_true.mp (List.all_eq_true.mp hcs _ hin)
    have eq := of_decide_eq_true eq
    subst eq
    obtain ⟨T1, T2⟩ := G.xf.one _ hq f rfl
    refine ⟨_, pe_xf (X := Y.toCx) (pn := pn) T2 T1.fld G.zc G.flds (G.var hx) rfl, fun σ H σu M Qu Q rs S hf ct => ?_⟩
    obtain ⟨a', cn', d', fs, v, hc, _, hs, hm, hl, hQ⟩ := hf
    rw [G.cur] at hc
    cases hc
    obtain ⟨y, hy, ry⟩ := rs.2 i _ hs
    obtain ⟨vs, e1, rf⟩ := S _ _ hm
    obtain ⟨w, hw, rw', _⟩ := RelF.get rf hl
    cases ry
    exact ⟨_, hy, rfl, rfl, d', vs, w, rfl, e1, hw, ct.at_ S rw' hQ⟩
  · refine ⟨fun _ _ _ => False, ⟨fun _ _ _ _ _ _ z => z.elim⟩, fun σ H σu M Qu Q rs S hf ct => ?_⟩
    obtain ⟨a', cn', d', fs, v, hc, hi, _⟩ := hf
    rw [G.cur] at hc
    cases hc
    exact hin hi
theorem se_isx (G : Gq Y a oe d cn c C) {i : Nat} {yes no : List Str} {x y : Str} {t : Expr} {p p2 pos : Pos} (hg : gBl c "isinstance" x = true) (hy : varB c i y = true) (ht : clsArg c t = true) (his : (c.isxs.any fun p => decide (p = (clsList t, yes, no))) = true)
    (hall : ((yes ++ no).all fun z => c.xcl.any fun p => decide (p.1 = z)) = true) :
    SE (sX Y a oe pn) (.ofE fun σ M Q => ∃ a cn d, C.cur = some (a, cn, d) ∧ σ[i]? = some (some (.ref a)) ∧ (cn ∈ yes ∨ cn ∈ no) ∧ (∀ dx, d = some dx → ∃ fs, M dx = some (.exd fs)) ∧ Q (.bl (decide (cn ∈ yes))) M) (.Call (.Name x p) [.Name y p2, t] [] pos) := by
  have hgl : x = "isinstance" ∧ Gl (sX Y a oe pn) x := by
    unfold gBl at hg
    simp only [Bool.and_eq_true, decide_eq_true_eq] at hg
    exact ⟨hg.1, G.gl hg.2.1⟩
  obtain ⟨rfl, hgl⟩ := hgl
  have hm : (sX Y a oe pn).mg "isinstance" = none := G.blt _ (by decide +kernel)
  obtain ⟨q, hq, eq⟩ := List.any_eq_true.mp his
  have eq := of_decide_eq_true eq
  subst eq
  have ans : (cn ∈ yes ∨ cn ∈ no) → PySem.W.kitAny Y.K (.ref (cad Y.K cn)) ((clsList t).map (clv Y.K)) = some (decide (cn ∈ yes)) := fun h => by
    by_cases hi : cn ∈ yes
    · rw [decide_eq_true hi]
      exact G.xf.isy _ hq _ hi
    · rw [decide_eq_false hi]
      exact G.xf.isn _ hq _ (h.resolve_left hi)
  by_cases hin : cn ∈ yes ++ no
  · obtain ⟨r, hr, er⟩ := List.any_eq_true.mp (List.all_eq_true.mp hall _ hin)
    have er := of_decide_eq_true er
    have T := G.xf.exc _ hr
    rw [er] at T
    have hd : ∀ {H : Hp} {M : Hm}, Sim (kwX (sX Y a oe pn)) H M → (∀ dx, d = some dx → ∃ fs, M dx = some (.exd fs)) → (d = none ∨ ∃ dx fs, d = some dx ∧ H dx = some (.xd fs)) := fun {H M} S h => by
      cases d with
      | none => exact .inl rfl
      | some dx =>
        obtain ⟨fs, hfs⟩ := h dx rfl
        obtain ⟨vs, e, _⟩ := S _ _ hfs
        exact .inr ⟨dx, vs, rfl, e⟩
    unfold clsArg at ht
    split at ht
    · rename_i z pz
      have pz' := G.cls (pn := pn) (pos := pz) ht
      refine SE.ofE rfl ⟨_, pe_callB (call_isx (pn := pn) T G.zc G.flds) hgl hm (by decide +kernel) (pa_cons (G.var hy) (pa_cons pz' pa_nil rfl) rfl) (by decide +kernel) (by decide +kernel) rfl rfl, fun σ H σu M Qu Q rs S hf ct => ?_⟩
      obtain ⟨a', cn', d', hc, hs, h1, h2, hQ⟩ := hf
      rw [G.cur] at hc
      cases hc
      obtain ⟨v, hv, rv⟩ := rs.2 i _ hs
      cases rv
      exact ⟨_, hv, hd S h2, .inl ⟨_, _, _, rfl, clV_cls _ _, ans h1, ct.at_ S (.bl _) hQ⟩⟩
    · rename_i es k0 pz
      rw [Bool.and_eq_true, decide_eq_true_eq] at ht
      obtain ⟨hn, hlen⟩ := ht
      obtain ⟨pa, hst⟩ := G.clss (pn := pn) hn
      have ptup := pe_tup (pos := pz) (x1 := k0) pa
      refine SE.ofE rfl ⟨_, pe_callB (call_isx (pn := pn) T G.zc G.flds) hgl hm (by decide +kernel) (pa_cons (G.var hy) (pa_cons ptup pa_nil rfl) rfl) (by decide +kernel) (by decide +kernel) rfl rfl, fun σ H σu M Qu Q rs S hf ct => ?_⟩
      obtain ⟨a', cn', d', hc, hs, h1, h2, hQ⟩ := hf
      rw [G.cur] at hc
      cases hc
      obtain ⟨v, hv, rv⟩ := rs.2 i _ hs
      cases rv
      refine ⟨_, hv, ?_, fun n hnn => ?_⟩
      · show (List.map (clV Y.K) (clsList (.Tuple es 0 ⟨0, 0, 0, 0⟩))).length ≤ sizeLine
        rw [List.length_map]
        unfold clsList
        rw [List.length_map, sizeLine_eq]
        omega
      · have st2 : Stp H M (upd H n (.tup (List.map (clV Y.K) (clsList (.Tuple es 0 ⟨0, 0, 0, 0⟩))))) M := Stp.newT S hnn
        have S2 := S.newT (vs := List.map (clV Y.K) (clsList (.Tuple es 0 ⟨0, 0, 0, 0⟩))) hnn
        exact ⟨hd S2 h2, .inr ⟨n, _, _, _, rfl, upd_same, clV_all _ _, ans h1, ct _ _ _ _ st2 S2 (.bl _) hQ⟩⟩
    · cases ht
  · refine ⟨⟨fun _ _ _ => False, ⟨fun _ _ _ _ _ _ z => z.elim⟩, fun σ H σu M Qu Q rs S hf ct => ?_⟩, ⟨fun _ _ _ => False, ⟨fun _ _ _ _ _ _ z => z.elim⟩, fun σ H σu M Qu Q rs S hf ct => ?_⟩⟩
    all_goals
      obtain ⟨a', cn', d', hc, hs, h1, _⟩ := hf
      rw [G.cur] at hc
      cases hc
      exact hin (List.mem_append.mpr h1)
end
section
variable {Y : Cy} {a : Addr} {oe : Obj} {d : Option Addr} {cn : Str} {c : Ck} {C : CE} {pn : List (Addr × Obj)}
def SQ (Y : Cy) (a : Addr) (oe : Obj) (pn : List (Addr × Obj)) (c : Ck) (C : CE) (e : E) : Prop := ∀ x, ckQ e c x = true → SE (sX Y a oe pn) (w C e) x
def SQL (Y : Cy) (a : Addr) (oe : Obj) (pn : List (Addr × Obj)) (c : Ck) (C : CE) (e : E) : Prop := ∀ xs, ckQL e c xs = true → SA (sX Y a oe pn) (w C e).l xs ∧ (xs ≠ [] → AO (sX Y a oe pn) (w C e) xs) ∧ (xs = [] → e = .nil)
theorem noQ {e : E} (h : ∀ x, ckQ e c x = false) : SQ Y a oe pn c C e := fun x q => by rw [h x] at q; cases q
theorem noQL {e : E} (h : ∀ x, ckQL e c x = false) : SQL Y a oe pn c C e := fun x q => by rw [h x] at q; cases q
theorem soundQ (G : Gq Y a oe d cn c C) (e : E) : SQ Y a oe pn c C e ∧ SQL Y a oe pn c C e := by
  induction e with
  | var i =>
    refine ⟨fun x h => ?_, noQL fun _ => rfl⟩
    unfold ckQ at h
    split at h <;> first | (cases h; done) | skip
    refine .ofE rfl ⟨_, G.var h, ?_⟩
    intro σ H σu M Qu Q rs S ⟨u, e, q⟩ ct
    obtain ⟨v, e1, r⟩ := rs.2 i u e
    exact ⟨v, e1, ct.at_ S r q⟩
  | int i =>
    refine ⟨fun x h => ?_, noQL fun _ => rfl⟩
    unfold ckQ at h
    split at h <;> first | (cases h; done) | skip
    obtain rfl : i = _ := of_decide_eq_true h
    exact .ofE rfl se_int
  | str i =>
    refine ⟨fun x h => ?_, noQL fun _ => rfl⟩
    unfold ckQ at h
    split at h <;> first | (cases h; done) | skip
    obtain rfl : i = _ := of_decide_eq_true h
    exact .ofE rfl se_str
  | bl i =>
    refine ⟨fun x h => ?_, noQL fun _ => rfl⟩
    unfold ckQ at h
    split at h <;> first | (cases h; done) | skip
    obtain rfl : i = _ := of_decide_eq_true h
    exact .ofE rfl se_bl
  | non =>
    refine ⟨fun x h => ?_, noQL fun _ => rfl⟩
    unfold ckQ at h
    split at h <;> first | (cases h; done) | skip
    exact .ofE rfl se_non
  | nil =>
    refine ⟨noQ fun _ => rfl, fun xs h => ?_⟩
    cases xs with
    | nil => exact ⟨sa_nil, fun z => absurd rfl z, fun _ => rfl⟩
    | cons _ _ => cases h
  | cons x1 b iha ihb =>
    refine ⟨noQ fun _ => rfl, fun xs h => ?_⟩
    cases xs with
    | nil => cases h
    | cons x xs =>
      have h : (!isStar x && (ckQ x1 c x && ckQL b c xs)) = true := h
      rw [Bool.and_eq_true, Bool.and_eq_true] at h
      obtain ⟨h1, h2, h3⟩ := h
      have h1 : isStar x = false := by simpa using h1
      have sa := iha.1 x h2
      obtain ⟨sb, ao, hn⟩ := ihb.2 xs h3
      refine ⟨sa_cons h1 sa.1 sb, fun _ => ?_, (fun z => by cases z)⟩
      cases xs with
      | nil =>
        have e := hn rfl
        subst e
        exact ao_one sa
      | cons y ys =>
        have hb : isNil b = false := by
          cases b <;> first | rfl | (cases h3; done)
        have hn : ¬ isNil b = true := by rw [hb]; decide
        have e1 : (w C (.cons x1 b)).ta = fun σ M Q => (w C x1).t σ M fun c M1 => if c = true then (w C b).ta σ M1 Q else Q false M1 := if_neg hn
        have e2 : (w C (.cons x1 b)).to = fun σ M Q => (w C x1).t σ M fun c M1 => if c = true then Q true M1 else (w C b).to σ M1 Q := if_neg hn
        have e3 : (w C (.cons x1 b)).va = fun σ M Q => bW (w C x1).e σ M fun c M1 => if c = true then (w C b).va σ M1 Q else Q (.bl false) M1 := if_neg hn
        have e4 : (w C (.cons x1 b)).vo = fun σ M Q => bW (w C x1).e σ M fun c M1 => if c = true then Q (.bl true) M1 else (w C b).vo σ M1 Q := if_neg hn
        have q := ao_cons sa (ao (by simp))
        intro pos
        rw [e1, e2, e3, e4]
        exact q pos
  | tup es ih =>
    refine ⟨fun x h => ?_, noQL fun _ => rfl⟩
    unfold ckQ at h
    split at h <;> first | (cases h; done) | skip
    exact .ofE rfl (se_tup (ih.2 _ h).1)
  | cmp op x1 x2 iha ihb =>
    refine ⟨fun x h => ?_, noQL fun _ => rfl⟩
    unfold ckQ at h
    split at h <;> first | (cases h; done) | skip
    simp only [Bool.and_eq_true, decide_eq_true_eq, Bool.not_eq_true'] at h
    obtain ⟨rfl, h0, h1, h2⟩ := h
    exact se_cmp G.un (iha.1 _ h1).1 (ihb.1 _ h2).1 h0
  | isN x1 ih =>
    refine ⟨fun x h => ?_, noQL fun _ => rfl⟩
    unfold ckQ at h
    split at h <;> first | (cases h; done) | skip
    exact se_isN (ih.1 _ h).1
  | notN x1 ih =>
    refine ⟨fun x h => ?_, noQL fun _ => rfl⟩
    unfold ckQ at h
    split at h <;> first | (cases h; done) | skip
    exact se_notN (ih.1 _ h).1
  | ands es ih =>
    refine ⟨fun x h => ?_, noQL fun _ => rfl⟩
    unfold ckQ at h
    split at h <;> first | (cases h; done) | skip
    simp only [Bool.and_eq_true, Bool.not_eq_true'] at h
    obtain ⟨h0, h1⟩ := h
    obtain ⟨⟨t, p, q⟩, _, v, _⟩ := (ih.2 _ h1).2.1 (by intro z; rw [z] at h0; cases h0) _
    exact ⟨v, ⟨_, p.pt, q⟩⟩
  | ors es ih =>
    refine ⟨fun x h => ?_, noQL fun _ => rfl⟩
    unfold ckQ at h
    split at h <;> first | (cases h; done) | skip
    simp only [Bool.and_eq_true, Bool.not_eq_true'] at h
    obtain ⟨h0, h1⟩ := h
    obtain ⟨_, ⟨t, p, q⟩, _, v⟩ := (ih.2 _ h1).2.1 (by intro z; rw [z] at h0; cases h0) _
    exact ⟨v, ⟨_, p.pt, q⟩⟩
  | not x1 ih =>
    refine ⟨fun x h => ?_, noQL fun _ => rfl⟩
    unfold ckQ at h
    split at h <;> first | (cases h; done) | skip
    exact se_not (ih.1 _ h)
  | ite x0 x1 x2 ihd iha ihb =>
    refine ⟨fun x h => ?_, noQL fun _ => rfl⟩
    unfold ckQ at h
    split at h <;> first | (cases h; done) | skip
    simp only [Bool.and_eq_true] at h
    obtain ⟨h1, h2, h3⟩ := h
    exact ⟨se_ite (ihd.1 _ h1).2 (iha.1 _ h2).1 (ihb.1 _ h3).1, ⟨fun _ _ _ => False, ⟨fun _ _ _ _ _ _ z => z.elim⟩, fun _ _ _ _ _ _ _ _ z _ => z⟩⟩
  | xfd f i cs =>
    refine ⟨fun x h => ?_, noQL fun _ => rfl⟩
    unfold ckQ at h
    split at h <;> first | (cases h; done) | skip
    rw [Bool.and_eq_true, Bool.and_eq_true, decide_eq_true_eq] at h
    obtain ⟨rfl, h1, h2⟩ := h
    exact .ofE rfl (se_xfd G h1 h2)
  | isx i yes no =>
    refine ⟨fun x h => ?_, noQL fun _ => rfl⟩
    unfold ckQ at h
    split at h <;> first | (cases h; done) | skip
    rw [Bool.and_eq_true, Bool.and_eq_true, Bool.and_eq_true, Bool.and_eq_true] at h
    obtain ⟨h1, h2, h3, h4, h5⟩ := h
    exact se_isx G h1 h2 h3 h4 h5
  | gint x i =>
    refine ⟨fun y h => ?_, noQL fun _ => rfl⟩
    unfold ckQ at h
    split at h <;> first | (cases h; done) | skip
    simp only [Bool.and_eq_true, decide_eq_true_eq] at h
    obtain ⟨rfl, ⟨h1, h2⟩, h3⟩ := h
    obtain ⟨p, hp, e⟩ := List.any_eq_true.mp h3
    have e := of_decide_eq_true e
    subst e
    obtain ⟨t, ht⟩ := G.kints _ hp
    exact .ofE rfl (se_gl (v := .int i) (G.gl h1) ht ⟨t, rfl⟩ (fun _ => .int i) (okN_of h2).1)
  | _ => exact ⟨noQ fun _ => rfl, noQL fun _ => rfl⟩
end
/-! the suites -/
mutual
def ckQS : S → Ck → Stmt → Bool
  | .skip, _, st => (match st with | .Pass _ => true | _ => false)
  | .asg i e, c, st => (match st with | .Assign [.Name x p'] v _ => decide (c.N[i]? = some x) && (locB c.sc x && (ckQ e c v && !isComp v)) | _ => false)
  | .ifs d a b, c, st => (match st with | .If x p q _ => ckQ d c x && (ckQB a c p && ckQB b c q) | _ => false)
  | .ret e, c, st => (match st with | .Return (some x) _ => ckQ e c x | _ => false)
  | .retN, _, st => (match st with | .Return none _ => true | _ => false)
  | .brk, _, st => (match st with | .Break _ => true | _ => false)
  | .cnt, _, st => (match st with | .Continue _ => true | _ => false)
  | .nvr, _, _ => true
  | _, _, _ => false
def ckQB : S → Ck → List Stmt → Bool
  | .skip, _, sts => sts.isEmpty
  | .seq a b, c, sts => (match sts with | st :: r => ckQS a c st && ckQB b c r | [] => false)
  | .nvr, _, _ => true
  | _, _, _ => false
end
section
variable {Y : Cy} {a : Addr} {oe : Obj} {d : Option Addr} {cn : Str} {c : Ck} {C : CE} {pn : List (Addr × Obj)}
theorem Gq.loc (G : Gq Y a oe d cn c C) {x : Str} (h : locB c.sc x = true) : L2.Loc (sX Y a oe pn).env.scope x := by
  show L2.Loc Y.env.scope x
  rw [G.sc]
  unfold locB at h
  unfold L2.Loc
  split at h
  · exact .inl (by assumption)
  · exact .inr (by assumption)
  · cases h
def SqS (Y : Cy) (a : Addr) (oe : Obj) (pn : List (Addr × Obj)) (c : Ck) (C : CE) (s : S) : Prop := (∀ st, ckQS s c st = true → SS (sX Y a oe pn) (wS C s) st) ∧ ∀ sts, ckQB s c sts = true → SSs (sX Y a oe pn) (wS C s) sts
theorem soundQS (G : Gq Y a oe d cn c C) (s : S) : SqS Y a oe pn c C s := by
  have noB : ∀ {s : S}, (∀ x, ckQB s c x = false) → ∀ sts, ckQB s c sts = true → SSs (sX Y a oe pn) (wS C s) sts := fun h sts q => by rw [h sts] at q; cases q
  have noS : ∀ {s : S}, (∀ x, ckQS s c x = false) → ∀ st, ckQS s c st = true → SS (sX Y a oe pn) (wS C s) st := fun h sts q => by rw [h sts] at q; cases q
  induction s with
  | skip =>
    refine ⟨fun st h => ?_, fun sts h => ?_⟩
    · unfold ckQS at h
      split at h <;> first | (cases h; done) | skip
      exact ss_pass
    · cases sts with
      | nil => exact sss_nil
      | cons _ _ => cases h
  | seq s1 s2 iha ihb =>
    refine ⟨noS fun _ => rfl, fun sts h => ?_⟩
    cases sts with
    | nil => cases h
    | cons st r =>
      have h : (ckQS s1 c st && ckQB s2 c r) = true := h
      rw [Bool.and_eq_true] at h
      exact sss_cons (f := wS C s1) (g := wS C s2) (iha.1 st h.1) (ihb.2 r h.2)
  | asg i e =>
    refine ⟨fun st h => ?_, noB fun _ => rfl⟩
    unfold ckQS at h
    split at h <;> first | (cases h; done) | skip
    rename_i st x p' v pos
    rw [Bool.and_eq_true, Bool.and_eq_true, Bool.and_eq_true] at h
    obtain ⟨h1, h2, h3, h4⟩ := h
    exact ss_asg (X := sX Y a oe pn) (by show Y.N.Nodup; rw [G.N]; exact G.nd) (by show Y.N[i]? = some x; rw [G.N]; exact of_decide_eq_true h1) (G.loc h2) (no_swap (by simpa using h4)) (G.fnl x) ((soundQ (pn := pn) G e).1 v h3).1
  | ifs x1 s1 s2 iha ihb =>
    refine ⟨fun st h => ?_, noB fun _ => rfl⟩
    unfold ckQS at h
    split at h <;> first | (cases h; done) | skip
    rw [Bool.and_eq_true, Bool.and_eq_true] at h
    obtain ⟨h1, h2, h3⟩ := h
    exact ss_if ((soundQ (pn := pn) G x1).1 _ h1).2 (iha.2 _ h2) (ihb.2 _ h3)
  | ret e =>
    refine ⟨fun st h => ?_, noB fun _ => rfl⟩
    unfold ckQS at h
    split at h <;> first | (cases h; done) | skip
    exact ss_ret ((soundQ (pn := pn) G e).1 _ h).1
  | retN =>
    refine ⟨fun st h => ?_, noB fun _ => rfl⟩
    unfold ckQS at h
    split at h <;> first | (cases h; done) | skip
    exact ss_retN
  | brk =>
    refine ⟨fun st h => ?_, noB fun _ => rfl⟩
    unfold ckQS at h
    split at h <;> first | (cases h; done) | skip
    exact ss_break
  | cnt =>
    refine ⟨fun st h => ?_, noB fun _ => rfl⟩
    unfold ckQS at h
    split at h <;> first | (cases h; done) | skip
    exact ss_cont
  | nvr => exact ⟨fun st h => ss_nvr, fun sts h => sss_nvr⟩
  | _ => exact ⟨noS fun _ => rfl, noB fun _ => rfl⟩
end
end Pl

set_option maxHeartbeats 4000000
/-! statements and defs: the check and its worth -/
namespace Pl
open PySem L2
/-- a comprehension stored by its own rule -/
def swapB (x : Str) (p' : Pos) (v : Expr) : Bool := match v with
  | .ListComp _ _ scope vp => (p'.line == vp.line) && !(scope.names.any fun (n, k) => n == x && (k == .local || k == .cell))
  | _ => false
/-- a clause's name and its slot -/
def nameOk (c : Ck) : Option Nat → Option Str → Bool
  | none, none => true
  | some i, some n => decide (c.N[i]? = some n) && ownB c.sc n
  | _, _ => false
def ckH : S → Ck → List ExceptHandler → Bool
  | .skip, _, hs => hs.isEmpty
  | .hdl i yes no s r, c, hs => (match hs with
    | .ExceptHandler (some (.Name x _)) n (st0 :: sts) _ :: hs2 => (c.hds.any fun p => decide (p = (x, yes, no))) && ((c.xnm.any fun y => decide (y = x)) && ((glB c.sc x && okN x) && (nameOk c i n && (ckQB s c (st0 :: sts) && ckH r c hs2))))
    | _ => false)
  | _, _, _ => false
mutual
def ckS : S → Ck → Stmt → Bool
  | .skip, _, st => (match st with | .Pass _ => true | _ => false)
  | .seq _ _, _, _ => false
  | .asg i e, c, st => (match st with
    | .Assign [.Name x p'] v _ => decide (c.N[i]? = some x) && (locB c.sc x && (ckE e c v && (if isComp v = true then swapB x p' v else true)))
    | _ => false)
  | .asgT is e, c, st => (match st with | .Assign [.Tuple es _ _] v _ => namesB c.N (locB c.sc) is es && (notTup v && ckE e c v) | _ => false)
  | .asgU is e, c, st => (match st with | .Assign [.Tuple es _ _] v _ => namesB c.N (locB c.sc) is es && (notTup v && ckE e c v) | _ => false)
  | .par _ _ _ _, _, _ => false
  | .setF cn f o e, c, st => (match st with | .Assign [.Attribute x a _] v _ => decide (a = f) && (hasFld c cn f && (ckE e c v && ckE o c x)) | _ => false)
  | .delIx o i, c, st => (match st with | .Delete [.Subscript x y _] _ => notSlice y && (ckE o c x && ckE i c y) | _ => false)
  | .setIx o i e, c, st => (match st with | .Assign [.Subscript x y _] v _ => notSlice y && (ckE e c v && (ckE o c x && ckE i c y)) | _ => false)
  | .augV i op e, c, st => (match st with | .AugAssign (.Name x _) o v _ => decide (iopOf op = some o) && (decide (c.N[i]? = some x) && (locB c.sc x && ckE e c v)) | _ => false)
  | .augIx o i op e, c, st => (match st with | .AugAssign (.Subscript x y _) oo v _ => decide (iopOf op = some oo) && (notSlice y && (ckE o c x && (ckE i c y && ckE e c v))) | _ => false)
  | .ifs d a b, c, st => (match st with | .If x p q _ => ckE d c x && (ckB a c p && ckB b c q) | _ => false)
  | .for_ tg it b, c, st => (match st with | .For g x body [] _ => ckTg tg c.N (locB c.sc) g && ((enOk it g && ckI it c x) && (notSet x && ckB b (if isKeysE it then { c with xs := false } else c) body)) | _ => false)
  | .whl d b, c, st => (match st with | .While x body [] _ => ckE d c x && ckB b c body | _ => false)
  | .ret e, c, st => (match st with | .Return (some x) _ => ckE e c x | _ => false)
  | .retN, _, st => (match st with | .Return none _ => true | _ => false)
  | .brk, _, st => (match st with | .Break _ => true | _ => false)
  | .cnt, _, st => (match st with | .Continue _ => true | _ => false)
  | .expr e, c, st => (match st with | .Expr x _ => !isComp x && ckE e c x | _ => false)
  | .nvr, _, _ => true
  | .raise1 cn f e, c, st => (match st with | .Raise (some (.Call (.Name x _) [y] [] _)) none _ => c.xs && (decide (x = cn) && ((c.xcl.any fun p => decide (p = (cn, some f))) && ((glB c.sc x && okN x) && (!isStar y && ckE e c y)))) | _ => false)
  | .raise0 cn, c, st => (match st with | .Raise (some (.Call (.Name x _) [] [] _)) none _ => c.xs && (decide (x = cn) && ((c.xcl.any fun p => decide (p = (cn, none))) && (glB c.sc x && okN x))) | _ => false)
  | .try_ b h, c, st => (match st with | .Try body hds [] [] _ => c.xs && (!hds.isEmpty && (ckB b c body && ckH h c hds)) | _ => false)
  | .hdl _ _ _ _ _, _, _ => false
def ckB : S → Ck → List Stmt → Bool
  | .skip, _, sts => sts.isEmpty
  | .seq a b, c, sts => (match sts with | st :: r => ckS a c st && ckB b c r | [] => false)
  | .nvr, _, _ => true
  | _, _, _ => false
end
section
variable {X : Cy} {c : Ck} {k : Nat} {fa : Nat → Addr} {fd : Nat → FuncData} {C : CE}
theorem swap_of (G : Gd X c k fa fd C) {x : Str} {p' vp : Pos} {elt : Expr} {gs : List Comprehension} {scope : Scope} {l : Nat} (hk : X.env.scope.kind = .function) (hs : swapB x p' (.ListComp elt gs scope vp) = true) :
    (ownB c.sc x = true → swapsWith (.ListComp elt gs scope vp) (some (.Name x p')) l X.env = pure true) ∧ (ownB c.sc x = false → swapsWith (.ListComp elt gs scope vp) (some (.Name x p')) l X.env = pure false) := by
  unfold swapB at hs
  rw [Bool.and_eq_true] at hs
  have h2 : (scope.names.any fun (n, k) => n == x && (k == .local || k == .cell)) = false := by simpa using hs.2
  refine ⟨fun h => sw_true hk (own_of G h) hs.1 h2, fun h => ?_⟩
  have hb : X.env.blockKind = .function := by unfold Env.blockKind; rw [hk]; rfl
  have hn : (X.env.kindOf x == some .local) = false := by
    have e : X.env.kindOf x = c.sc.names.lookup x := by
      show X.env.scope.names.lookup x = _
      rw [G.sc]
    rw [e]
    unfold ownB at h
    split at h
    · cases h
    · rename_i hz
      cases q : c.sc.names.lookup x with
      | none => rfl
      | some kd => cases kd <;> first | rfl | exact absurd q hz
  unfold swapsWith
  simp only [hn, Bool.and_false, Bool.false_and]
theorem comp_parts (G : Gd X c k fa fd C) {e : E} {x : Expr} {gens : List Comprehension} {scope : Scope} {pos : Pos} (h : ckE e c (.ListComp x gens scope pos) = true) :
    (∃ own tg it fc fe g itx ifs, gens = [⟨g, itx, ifs, 0⟩] ∧ (w C e).e = compW (w C it).i tg fc fe ∧ CompOk X g x ifs scope own tg fc fe ∧ notSet itx = true ∧ (SI X g itx (w C it).i ∨ ∃ i, it = .iKeys (.var i) ∧ PE X itx (tVar i))) ∨
    ∃ own tg it tg1 fi1 fc1 fe g itx g1 itx1 ifs1, gens = [⟨g, itx, [], 0⟩, ⟨g1, itx1, ifs1, 0⟩] ∧ (w C e).e = comp2W (w C it).i tg (own.map (·.2)) fi1 tg1 fc1 fe ∧ CompOk2 X g g1 itx1 x ifs1 scope own tg tg1 fi1 fc1 fe ∧ SI X g itx (w C it).i ∧ notSet itx = true ∧ notSet itx1 = true := by
  cases e <;> first | (unfold ckE at h; cases h; done) | (unfold ckE at h; simp at h; done) | skip
  · left
    rename_i own tg it cnd elt
    unfold ckE at h
    split at h <;> first | (cases h; done) | skip
    rename_i e2 x2 g itx ifs is_ scope2 pos2 heq
    cases heq
    rw [Bool.and_eq_true, Bool.and_eq_true, Bool.and_eq_true, Bool.and_eq_true, Bool.and_eq_true, Bool.and_eq_true, Bool.and_eq_true, Bool.and_eq_true] at h
    obtain ⟨h1, ⟨hen, h2⟩, h3, h4, h5, h6, h7, h8⟩ := h
    obtain rfl : is_ = 0 := of_decide_eq_true h1
    have co := compOk_of G (sound cnd).1 (sound elt).1 h4 (of_decide_eq_true h5) h6 h7 h8
    exact ⟨own, tg, it, _, _, g, itx, ifs, rfl, rfl, co, h3, (sound it).2.2 X c k fa fd C G itx g h2 hen⟩
  · right
    rename_i own tg it tg1 it1 cnd elt
    unfold ckE at h
    split at h <;> first | (cases h; done) | skip
    rename_i e2 x2 g itx is_ g1 itx1 ifs1 is1 scope2 pos2 heq
    cases heq
    rw [Bool.and_eq_true, Bool.and_eq_true, Bool.and_eq_true, Bool.and_eq_true, Bool.and_eq_true, Bool.and_eq_true, Bool.and_eq_true, Bool.and_eq_true, Bool.and_eq_true, Bool.and_eq_true, Bool.and_eq_true, Bool.and_eq_true, Bool.and_eq_true, Bool.and_eq_true, Bool.and_eq_true, Bool.and_eq_true] at h
    obtain ⟨h1, h2, ⟨h3, h4, h5⟩, ⟨h6, h7, h8⟩, ⟨h9, h10⟩, h11, ⟨h12, h13⟩, ⟨h14, h15⟩, h16, h17⟩ := h
    obtain rfl : is_ = 0 := of_decide_eq_true h1
    obtain rfl : is1 = 0 := of_decide_eq_true h2
    obtain ⟨co, hi⟩ := comp2_of G (sound it).2.2 (sound it1).2.2 (sound cnd).1 (sound elt).1 (by simpa using h3) h4 h5 (by simpa using h6) h7 h8 h11 (fun i hi => of_decide_eq_true (List.all_eq_true.mp h12 i hi)) (fun i hi => of_decide_eq_true (List.all_eq_true.mp h13 i hi)) h14 h15 h16 h17
    exact ⟨own, tg, it, tg1, _, _, _, g, itx, g1, itx1, ifs1, rfl, rfl, co, hi, h9, h10⟩
end
def SndS (a : S) : Prop := ∀ (X : Cy) (c : Ck) (k : Nat) (fa : Nat → Addr) (fd : Nat → FuncData) (C : CE), Gd X c k fa fd C → (∀ x, X.fn x = true) → X.env.scope.kind = .function → (X.stack = X.env :: X.outer ∧ X.env.frame = some X.env.locals) → ∀ st, ckS a c st = true → SS X (wS C a) st
def SndB (a : S) : Prop := ∀ (X : Cy) (c : Ck) (k : Nat) (fa : Nat → Addr) (fd : Nat → FuncData) (C : CE), Gd X c k fa fd C → (∀ x, X.fn x = true) → X.env.scope.kind = .function → (X.stack = X.env :: X.outer ∧ X.env.frame = some X.env.locals) → ∀ sts, ckB a c sts = true → SSs X (wS C a) sts
/-! try -/
section
variable {X : Cy} {c : Ck} {k : Nat} {fa : Nat → Addr} {fd : Nat → FuncData} {C : CE}
/-- a suite's reading -/
def tsOf (X : Cy) (C : CE) (s : S) : Tr.TsE := fun a cls d D σ H => ∃ cn σu M Du, cls = .ref (cad X.K cn) ∧ RelS (kwX X) H σ σu ∧ Sim (kwX X) H M ∧ wS ⟨C.x, fun _ _ _ _ => False, some (a, cn, d)⟩ s Du σu M ∧ ContD (kwX X) H M Du D
/-- the clauses' list -/
def lstOf (X : Cy) (C : CE) : S → List ExceptHandler → List (Value × Option Nat × Tr.TsE)
  | .hdl i _ _ s r, .ExceptHandler (some (.Name x _)) _ _ _ :: hs => (.ref (cad X.K x), i, tsOf X C s) :: lstOf X C r hs
  | _, _ => []
theorem clauses_of (G : Gd X c k fa fd C) (hf : ∀ x, X.fn x = true) (h : S) : ∀ hds, ckH h c hds = true → Tr.Clauses X hds (lstOf X C h hds) := by
  induction h with
  | skip =>
    intro hds hh
    cases hds with
    | nil => exact .nil
    | cons _ _ => cases hh
  | hdl i yes no s r _ ih =>
    intro hds hh
    unfold ckH at hh
    split at hh <;> first | (cases hh; done) | skip
    rename_i x np n st0 sts hp hs2
    simp only [Bool.and_eq_true] at hh
    obtain ⟨h1, h2, ⟨h3, h4⟩, h5, h6, h7⟩ := hh
    obtain ⟨y, hy, ey⟩ := List.any_eq_true.mp h2
    have ey := of_decide_eq_true ey
    subst ey
    refine .cons (oi := i) (ts := tsOf X C s) ⟨gl_of G h3, (okN_of h4).1, .inl (G.xf.nms _ hy)⟩ ?_ (fun a oe cls d pn hz hfl => ?_) (ih _ h7)
    · unfold nameOk at h5
      split at h5
      · trivial
      · rw [Bool.and_eq_true, decide_eq_true_eq] at h5
        exact ⟨by rw [G.N]; exact h5.1, own_of G h5.2⟩
      · cases h5
    · refine ⟨fun pins s1 σ H D I ⟨cn, σu, M, Du, ec, rs, S, hw, cd⟩ => ?_⟩
      subst ec
      have Gs : Gq X a oe d cn c ⟨C.x, fun _ _ _ _ => False, some (a, cn, d)⟩ := ⟨G.sc, G.N, G.nd, G.u66, G.blt, G.xf, G.kints, hf, hz, hfl, rfl⟩
      obtain ⟨t, p, q⟩ := (soundQS (pn := pn) Gs s).2 _ h6
      exact p.run pins s1 σ H D I (q D Du σ H σu M rs S hw cd)
  | _ => intro hds hh; exact absurd hh (by simp [ckH])
theorem un_ends {K : Kw} {H : Hp} {M : Hm} {Du : EndsU} {D : Ends} (cd : ContD K H M Du D) (i : Option Nat) : ContD K H M (Du.un i) (Tr.unE D i) := by
  cases i with
  | none => exact cd
  | some i =>
    refine ⟨fun σ' H' σu' M' st rs S q => ?_, cd.rt, fun σ' H' σu' M' st rs S q => ?_, fun σ' H' σu' M' st rs S q => ?_⟩
    · exact cd.nx _ _ (σu'.set i none) _ st (rs.wipe [i]) S q
    · exact cd.bk _ _ (σu'.set i none) _ st (rs.wipe [i]) S q
    · exact cd.ct _ _ (σu'.set i none) _ st (rs.wipe [i]) S q
theorem wish_of (G : Gd X c k fa fd C) {H : Hp} {M : Hm} {Du : EndsU} {D : Ends} (h : S) : ∀ hds, ckH h c hds = true → ContD (kwX X) H M Du D → ∀ {cn : Str} {d : Option Addr} {σ : L2.St} {σu : SU}, RelS (kwX X) H σ σu → Sim (kwX X) H M → wH C h Du cn d σu M →
    Tr.wishes X.K (wxU (kwX X) C.xc) D (lstOf X C h hds) (.ref (cad X.K cn)) d σ H := by
  induction h with
  | skip =>
    intro hds hh cd cn d σ σu rs S hw
    cases hds with
    | nil => exact ⟨cn, σu, M, rfl, rs, S, hw⟩
    | cons _ _ => cases hh
  | hdl i yes no s r _ ih =>
    intro hds hh cd cn d σ σu rs S hw
    unfold ckH at hh
    split at hh <;> first | (cases hh; done) | skip
    rename_i x np n st0 sts hp hs2
    simp only [Bool.and_eq_true] at hh
    obtain ⟨h1, h2, h3, h5, h6, h7⟩ := hh
    obtain ⟨p, hpm, ep⟩ := List.any_eq_true.mp h1
    have ep := of_decide_eq_true ep
    subst ep
    obtain ⟨w1, w2, w3⟩ := (show (cn ∈ yes ∨ cn ∈ no) ∧ (cn ∈ yes → ∀ a, M a = none → wS ⟨C.x, fun _ _ _ _ => False, some (a, cn, d)⟩ s (Du.un i) (setO σu i (.ref a)) M) ∧ (cn ∈ no → wH C r Du cn d σu M) from hw)
    by_cases hy : cn ∈ yes
    · refine ⟨true, G.xf.hdy _ hpm _ hy, fun _ a ha => ⟨cn, setO σu i (.ref a), M, Du.un i, rfl, ?_, S, w2 hy a (S.fr ha), un_ends cd i⟩, fun z => by cases z⟩
      cases i with
      | none => exact rs
      | some i => exact rs.set (.ref a) i
    · have hn := w1.resolve_left hy
      exact ⟨false, G.xf.hdn _ hpm _ hn, (fun z => by cases z), fun _ => ih hs2 h7 cd rs S (w3 hn)⟩
  | _ => intro hds hh; exact absurd hh (by simp [ckH])
theorem RelS.anc {k : Fg} {w : World} {z z' : Anc} {H : Hp} {σ : L2.St} {σu : SU} (h : RelS (k, w, z) H σ σu) : RelS (k, w, z') H σ σu := ⟨h.1, fun i u e => let ⟨v, a, b⟩ := h.2 i u e; ⟨v, a, b.anc⟩⟩
theorem ContD.anc {k : Fg} {w : World} {z : Anc} {H : Hp} {M : Hm} {Du : EndsU} {D : Ends} (S : Sim (k, w, z) H M) (cd : ContD (k, w, z) H M Du D) : ContD (k, w, S.here) H M Du D :=
  ⟨fun σ' H' σu' M' st rs S' q => cd.nx _ _ _ _ st rs.anc (S'.anc (S.antr st)) q, fun v H' u M' st S' r q => cd.rt _ _ _ _ st (S'.anc (S.antr st)) r.anc q,
    fun σ' H' σu' M' st rs S' q => cd.bk _ _ _ _ st rs.anc (S'.anc (S.antr st)) q, fun σ' H' σu' M' st rs S' q => cd.ct _ _ _ _ st rs.anc (S'.anc (S.antr st)) q⟩
/-- within a try's body -/
theorem Gd.tr (G : Gd X c k fa fd C) {pn : List (Addr × Obj)} {xe : Value → Shared → Prop} {z : Anc} {xcB : Str → Option Addr → SU → Hm → Prop} (tk : Takes (X.toCx.tr pn xe) (wxU (X.K, X.w, z) xcB)) (po : PassesOwn (model X.prog X.w) X.A X.env xe) :
    Gd ⟨X.toCx.tr pn xe, z⟩ c k fa fd ⟨C.x, xcB, C.cur⟩ :=
  ⟨G.sc, G.N, G.nd, G.calm, po, fun _ => tk, G.xf, G.room, G.blt, G.fns, G.clss, G.kints, G.kstrs, G.ktups, fun p hp => let ⟨y, v, h1, h2, h3⟩ := G.kdats p hp; ⟨y, v, h1, h2, fun H => (h3 H).anc⟩⟩
theorem ss_try (G : Gd X c k fa fd C) (hf : ∀ x, X.fn x = true) (hst : X.stack = X.env :: X.outer ∧ X.env.frame = some X.env.locals) (hxs : c.xs = true) {b h : S} {body : List Stmt} {hds : List ExceptHandler} {pos : Pos}
    (hb : ∀ (pn : List (Addr × Obj)) (xe : Value → Shared → Prop) (z : Anc) (xcB : Str → Option Addr → SU → Hm → Prop), Gd ⟨X.toCx.tr pn xe, z⟩ c k fa fd ⟨C.x, xcB, C.cur⟩ → SSs ⟨X.toCx.tr pn xe, z⟩ (wS ⟨C.x, xcB, C.cur⟩ b) body)
    (hne : hds ≠ []) (hh : ckH h c hds = true) : SS X (wS C (.try_ b h)) (.Try body hds [] [] pos) := by
  cases hds with
  | nil => exact absurd rfl hne
  | cons h0 hds =>
    let tb : WX → TS := fun W D σ H => ∃ (z : Anc) (xcB : Str → Option Addr → SU → Hm → Prop) (σu : SU) (M : Hm) (Du : EndsU), RelS (X.K, X.w, z) H σ σu ∧ Sim (X.K, X.w, z) H M ∧ wS ⟨C.x, xcB, C.cur⟩ b Du σu M ∧ ContD (X.K, X.w, z) H M Du D ∧
      ∀ cls d σ' H', wxU (X.K, X.w, z) xcB cls d σ' H' → W cls d σ' H'
    refine ⟨_, Tr.ps_clauses (X := X.toCx) (tb := tb) (W0 := wxU (kwX X) C.xc) (by rw [G.N]; exact G.nd) hst.1 hst.2 (G.tk hxs) (fun W pn xe tkW po => ⟨fun pins s σ H D I ⟨z, xcB, σu, M, Du, rs, S, hw, cd, imp⟩ => ?_⟩) (clauses_of G hf h _ hh), fun D Du σ H σu M rs S hw cd => ?_⟩
    · obtain ⟨t, p, q⟩ := hb pn xe z xcB (G.tr (tkW.imp imp) po)
      exact p.run pins s σ H D I (q D Du σ H σu M rs S hw cd)
    · refine ⟨S.here, fun cn d σ' M' => wH C h Du cn d σ' M', σu, M, Du, rs.anc, S.now, hw, cd.anc S, fun cls d σ' H' ⟨cn, σu', M', ec, rs', S', hx⟩ => ?_⟩
      subst ec
      exact wish_of G h _ hh (cd.tr S S'.an) rs'.anc (S'.anc (S.antr S'.an)) hx
end
theorem noB {a : S} (h : ∀ c x, ckB a c x = false) : SndB a := fun X c k fa fd C G hf hk hst x q => by rw [h c x] at q; cases q
theorem noS {a : S} (h : ∀ c x, ckS a c x = false) : SndS a := fun X c k fa fd C G hf hk hst x q => by rw [h c x] at q; cases q
theorem soundS (a : S) : SndS a ∧ SndB a := by
  induction a with
  | skip =>
    refine ⟨fun X c k fa fd C G hf hk hst st h => ?_, fun X c k fa fd C G hf hk hst sts h => ?_⟩
    · unfold ckS at h
      split at h <;> first | (cases h; done) | skip
      exact ss_pass
    · cases sts with
      | nil => exact sss_nil
      | cons _ _ => cases h
  | seq a b iha ihb =>
    refine ⟨noS fun _ _ => rfl, fun X c k fa fd C G hf hk hst sts h => ?_⟩
    cases sts with
    | nil => cases h
    | cons st r =>
      have h : (ckS a c st && ckB b c r) = true := h
      rw [Bool.and_eq_true] at h
      exact sss_cons (f := wS C a) (g := wS C b) (iha.1 X c k fa fd C G hf hk hst st h.1) (ihb.2 X c k fa fd C G hf hk hst r h.2)
  | asg i e =>
    refine ⟨fun X c k fa fd C G hf hk hst st h => ?_, noB fun _ _ => rfl⟩
    unfold ckS at h
    split at h <;> first | (cases h; done) | skip
    rename_i st x p' v pos
    rw [Bool.and_eq_true, Bool.and_eq_true, Bool.and_eq_true] at h
    obtain ⟨h1, h2, h3, h4⟩ := h
    have hN : X.N.Nodup := by rw [G.N]; exact G.nd
    have hi : X.N[i]? = some x := by rw [G.N]; exact of_decide_eq_true h1
    cases hc : isComp v with
    | false => exact ss_asg hN hi (loc_of G h2) (no_swap hc) (hf x) ((sound e).1 X c k fa fd C G v h3).1
    | true =>
      rw [if_pos hc] at h4
      cases v <;> first | (cases h4; done) | skip
      rename_i elt gens scope vp
      obtain ⟨s1, s2⟩ := swap_of (l := pos.line) G hk h4
      cases ho : ownB c.sc x with
      | false => exact ss_asg hN hi (loc_of G h2) (s2 ho) (hf x) ((sound e).1 X c k fa fd C G _ h3).1
      | true =>
        rcases comp_parts G h3 with ⟨own, tg, it, fc, fe, g, itx, ifs, rfl, ew, co, hs, hit⟩ | ⟨own, tg, it, tg1, fi1, fc1, fe, g, itx, g1, itx1, ifs1, rfl, ew, co, hit, hs, hs1⟩
        · show SS X (fun D σ M => (w C e).e σ M fun x M1 => D.nx (σ.set i (some x)) M1) _
          rw [ew]
          rcases hit with hit | ⟨j, rfl, hit⟩
          · exact ss_asgC hi (own_of G ho) (s1 ho) hit co hs
          · exact ss_asgCK hi (own_of G ho) (s1 ho) hit co hs
        · show SS X (fun D σ M => (w C e).e σ M fun x M1 => D.nx (σ.set i (some x)) M1) _
          rw [ew]
          exact ss_asgC2 hi (own_of G ho) (s1 ho) hit co hs hs1
  | asgT is e =>
    refine ⟨fun X c k fa fd C G hf hk hst st h => ?_, noB fun _ _ => rfl⟩
    unfold ckS at h
    split at h <;> first | (cases h; done) | skip
    rw [Bool.and_eq_true, Bool.and_eq_true] at h
    obtain ⟨h1, h2, h3⟩ := h
    exact ss_asgT G.calm (by rw [G.N]; exact G.nd) (ok := locB c.sc) (fun x hx => ⟨loc_of G hx, .inl (hf x)⟩) (by rw [G.N]; exact h1) h2 ((sound e).1 X c k fa fd C G _ h3).1
  | asgU is e =>
    refine ⟨fun X c k fa fd C G hf hk hst st h => ?_, noB fun _ _ => rfl⟩
    unfold ckS at h
    split at h <;> first | (cases h; done) | skip
    rw [Bool.and_eq_true, Bool.and_eq_true] at h
    obtain ⟨h1, h2, h3⟩ := h
    exact ss_asgU G.calm (by rw [G.N]; exact G.nd) (ok := locB c.sc) (fun x hx => ⟨loc_of G hx, .inl (hf x)⟩) (by rw [G.N]; exact h1) h2 ((sound e).1 X c k fa fd C G _ h3).1
  | par i j a b => exact ⟨noS fun _ _ => rfl, noB fun _ _ => rfl⟩
  | setF cn f o e =>
    refine ⟨fun X c k fa fd C G hf hk hst st h => ?_, noB fun _ _ => rfl⟩
    unfold ckS at h
    split at h <;> first | (cases h; done) | skip
    simp only [Bool.and_eq_true, decide_eq_true_eq] at h
    obtain ⟨rfl, h1, h2, h3⟩ := h
    obtain ⟨cd, hcd, hcn, p, hp, rfl⟩ : ∃ cd, cd ∈ c.cs ∧ cd.name = cn ∧ ∃ p ∈ cd.flds, p = _ := by
      unfold hasFld at h1
      obtain ⟨cd, h7, h8⟩ := List.any_eq_true.mp h1
      rw [Bool.and_eq_true] at h8
      obtain ⟨p, h9, h10⟩ := List.any_eq_true.mp h8.2
      exact ⟨cd, h7, of_decide_eq_true h8.1, p, h9, of_decide_eq_true h10⟩
    subst hcn
    have ck := G.clss cd hcd
    exact ss_setF ck.cls (ck.flds _ hp) ((sound e).1 X c k fa fd C G _ h2).1 ((sound o).1 X c k fa fd C G _ h3).1
  | delIx o i =>
    refine ⟨fun X c k fa fd C G hf hk hst st h => ?_, noB fun _ _ => rfl⟩
    unfold ckS at h
    split at h <;> first | (cases h; done) | skip
    rw [Bool.and_eq_true, Bool.and_eq_true] at h
    obtain ⟨h0, h2, h3⟩ := h
    exact ss_delIx ((sound o).1 X c k fa fd C G _ h2).1 ((sound i).1 X c k fa fd C G _ h3).1
  | setIx o i e =>
    refine ⟨fun X c k fa fd C G hf hk hst st h => ?_, noB fun _ _ => rfl⟩
    unfold ckS at h
    split at h <;> first | (cases h; done) | skip
    rw [Bool.and_eq_true, Bool.and_eq_true, Bool.and_eq_true] at h
    obtain ⟨h0, h1, h2, h3⟩ := h
    exact ss_setIx G.u66 ((sound e).1 X c k fa fd C G _ h1).1 ((sound o).1 X c k fa fd C G _ h2).1 ((sound i).1 X c k fa fd C G _ h3).1 h0
  | augV i op e =>
    refine ⟨fun X c k fa fd C G hf hk hst st h => ?_, noB fun _ _ => rfl⟩
    unfold ckS at h
    split at h <;> first | (cases h; done) | skip
    rw [Bool.and_eq_true, Bool.and_eq_true, Bool.and_eq_true] at h
    obtain ⟨h0, h1, h2, h3⟩ := h
    exact ss_augV (of_decide_eq_true h0) (by rw [G.N]; exact G.nd) (by rw [G.N]; exact of_decide_eq_true h1) (loc_of G h2) (hf _) ((sound e).1 X c k fa fd C G _ h3).1
  | augIx o i op e =>
    refine ⟨fun X c k fa fd C G hf hk hst st h => ?_, noB fun _ _ => rfl⟩
    unfold ckS at h
    split at h <;> first | (cases h; done) | skip
    rw [Bool.and_eq_true, Bool.and_eq_true, Bool.and_eq_true, Bool.and_eq_true] at h
    obtain ⟨h0, hs, h1, h2, h3⟩ := h
    exact ss_augIx (of_decide_eq_true h0) G.u66 ((sound o).1 X c k fa fd C G _ h1).1 ((sound i).1 X c k fa fd C G _ h2).1 ((sound e).1 X c k fa fd C G _ h3).1 hs
  | ifs d a b iha ihb =>
    refine ⟨fun X c k fa fd C G hf hk hst st h => ?_, noB fun _ _ => rfl⟩
    unfold ckS at h
    split at h <;> first | (cases h; done) | skip
    rw [Bool.and_eq_true, Bool.and_eq_true] at h
    obtain ⟨h1, h2, h3⟩ := h
    exact ss_if ((sound d).1 X c k fa fd C G _ h1).2 (iha.2 X c k fa fd C G hf hk hst _ h2) (ihb.2 X c k fa fd C G hf hk hst _ h3)
  | for_ tg it b ih =>
    refine ⟨fun X c k fa fd C G hf hk hst st h => ?_, noB fun _ _ => rfl⟩
    unfold ckS at h
    split at h <;> first | (cases h; done) | skip
    rename_i st g x body pos
    rw [Bool.and_eq_true, Bool.and_eq_true, Bool.and_eq_true, Bool.and_eq_true] at h
    obtain ⟨h1, ⟨hen, h2⟩, h3, h4⟩ := h
    have hb : SSs X (wS C b) body := by
      by_cases hkE : isKeysE it = true
      · rw [if_pos hkE] at h4
        exact ih.2 X _ k fa fd C G.quiet hf hk hst _ h4
      · rw [if_neg hkE] at h4
        exact ih.2 X c k fa fd C G hf hk hst _ h4
    rcases (sound it).2.2 X c k fa fd C G x g h2 hen with hi | ⟨i, rfl, hi⟩
    · exact ss_for G.po G.calm hi (sg_ofF G hf h1) hb h3
    · exact ss_forK G.po G.calm hi (sg_ofF G hf h1) hb h3
  | whl d b ih =>
    refine ⟨fun X c k fa fd C G hf hk hst st h => ?_, noB fun _ _ => rfl⟩
    unfold ckS at h
    split at h <;> first | (cases h; done) | skip
    rw [Bool.and_eq_true] at h
    exact ss_whl G.po ((sound d).1 X c k fa fd C G _ h.1).2 (ih.2 X c k fa fd C G hf hk hst _ h.2)
  | ret e =>
    refine ⟨fun X c k fa fd C G hf hk hst st h => ?_, noB fun _ _ => rfl⟩
    unfold ckS at h
    split at h <;> first | (cases h; done) | skip
    exact ss_ret ((sound e).1 X c k fa fd C G _ h).1
  | retN =>
    refine ⟨fun X c k fa fd C G hf hk hst st h => ?_, noB fun _ _ => rfl⟩
    unfold ckS at h
    split at h <;> first | (cases h; done) | skip
    exact ss_retN
  | brk =>
    refine ⟨fun X c k fa fd C G hf hk hst st h => ?_, noB fun _ _ => rfl⟩
    unfold ckS at h
    split at h <;> first | (cases h; done) | skip
    exact ss_break
  | cnt =>
    refine ⟨fun X c k fa fd C G hf hk hst st h => ?_, noB fun _ _ => rfl⟩
    unfold ckS at h
    split at h <;> first | (cases h; done) | skip
    exact ss_cont
  | expr e =>
    refine ⟨fun X c k fa fd C G hf hk hst st h => ?_, noB fun _ _ => rfl⟩
    unfold ckS at h
    split at h <;> first | (cases h; done) | skip
    rw [Bool.and_eq_true] at h
    exact ss_expr (by simpa using h.1) ((sound e).1 X c k fa fd C G _ h.2).1
  | nvr => exact ⟨fun X c k fa fd C G hf hk hst st h => ss_nvr, fun X c k fa fd C G hf hk hst sts h => sss_nvr⟩
  | raise1 cn f e =>
    refine ⟨fun X c k fa fd C G hf hk hst st h => ?_, noB fun _ _ => rfl⟩
    unfold ckS at h
    split at h <;> first | (cases h; done) | skip
    simp only [Bool.and_eq_true, decide_eq_true_eq, Bool.not_eq_true'] at h
    obtain ⟨hxs, rfl, h1, ⟨h2, h3⟩, h4, h5⟩ := h
    obtain ⟨p, hp, ep⟩ := List.any_eq_true.mp h1
    have ep := of_decide_eq_true ep
    subst ep
    exact ss_raise1 G.calm (G.tk hxs) (G.xf.one _ hp f rfl).1 G.room (gl_of G h2) h4 (okN_of h3).1 ((sound e).1 X c k fa fd C G _ h5).1
  | raise0 cn =>
    refine ⟨fun X c k fa fd C G hf hk hst st h => ?_, noB fun _ _ => rfl⟩
    unfold ckS at h
    split at h <;> first | (cases h; done) | skip
    simp only [Bool.and_eq_true, decide_eq_true_eq] at h
    obtain ⟨hxs, rfl, h1, h2, h3⟩ := h
    obtain ⟨p, hp, ep⟩ := List.any_eq_true.mp h1
    have ep := of_decide_eq_true ep
    subst ep
    exact ss_raise0 G.calm (G.tk hxs) (G.xf.nil _ hp rfl) G.room (gl_of G h2) (okN_of h3).1
  | try_ b h0 ihb _ =>
    refine ⟨fun X c k fa fd C G hf hk hst st h => ?_, noB fun _ _ => rfl⟩
    unfold ckS at h
    split at h <;> first | (cases h; done) | skip
    rw [Bool.and_eq_true, Bool.and_eq_true, Bool.and_eq_true] at h
    obtain ⟨hxs, h1, h2, h3⟩ := h
    exact ss_try G hf hst hxs (fun pn xe z xcB Gt => ihb.2 ⟨X.toCx.tr pn xe, z⟩ c k fa fd ⟨C.x, xcB, C.cur⟩ Gt hf hk hst _ h2) (by intro z; rw [z] at h1; cases h1) h3
  | hdl _ _ _ _ _ _ _ => exact ⟨noS fun _ _ => rfl, noB fun _ _ => rfl⟩
end Pl

set_option maxHeartbeats 400000
/-! the defs of a text keep their promises -/
namespace Pl
open PySem L2
def scopeB (N ps : List Str) (sc : Scope) : Bool :=
  decide (sc.kind = .function) && (!sc.isCoroutine && (!sc.isGenerator && (decide N.Nodup && (decide (N.take ps.length = ps) && ((ps.all fun x => locB sc x) && sc.names.all fun y => decide (y.2 ≠ .free))))))
theorem scope_of {N ps : List Str} {sc : Scope} (h : scopeB N ps sc = true) : FnScope N ps sc := by
  unfold scopeB at h
  simp only [Bool.and_eq_true, decide_eq_true_eq, Bool.not_eq_true', List.all_eq_true] at h
  obtain ⟨h1, h2, h3, h4, h5, h6, h7⟩ := h
  refine ⟨h1, h2, h3, h4, h5, fun x hx => ?_, fun y hy => h7 y hy⟩
  have q := h6 x hx
  unfold locB at q
  split at q
  · exact .inl (by assumption)
  · exact .inr (by assumption)
  · cases q
/-- an error class: its name, its field, its __init__ and that one's parameters -/
structure Xd where
  name : Str
  fld : Option Str
  st : Stmt
  ps : List Str
/-- a text: its defs, its classes, its constants -/
structure Pg where
  T : List Df
  cs : List Cd := []
  ks : List (Str × Int) := []
  ss : List (Str × Str) := []
  ts : List (Str × List Int) := []
  ds : List (Str × U) := []
  xds : List Xd := []
  isxs : List (List Str × List Str × List Str) := []
  hds : List (Str × List Str × List Str) := []
  xnm : List Str := []
  file : Str := ""
def Pg.ck (G : Pg) (d : Df) (st : Stmt) : Ck := { sc := defScope st, N := d.N, T := G.T, cs := G.cs, ks := G.ks, ss := G.ss, ts := G.ts, ds := G.ds, xs := true, xcl := G.xds.map fun x => (x.name, x.fld), isxs := G.isxs, hds := G.hds, xnm := G.xnm }
/-- one def against its text -/
def ckF (G : Pg) (d : Df) (st : Stmt) : Bool := scopeB d.N d.ps (defScope st) && ckB d.b (G.ck d st) (defBody st)
/-- its arguments bind -/
def BindP (x q : Str) (st : Stmt) (ps : List Str) : Prop := ∀ (kV doc pm : Value) (an : Option Addr) (cdv ct : Value) (us : List Value), us.length = ps.length → bindArgs (PySem.W.fnOf x q (defArgs st) (defBody st) (defScope st) .none kV doc pm an cdv ct) ⟨us, []⟩ = pure (ps.zip us)
theorem relS_start {K : Kw} {H : Hp} {N : List Str} {vs : List V} {us : List U} (r : RelL K H vs us) : RelS K H (L2.start N vs) (startU N.length us) := by
  refine ⟨by unfold L2.start startU; simp [r.length], fun i u e => ?_⟩
  unfold startU at e
  by_cases hi : i < us.length
  · rw [List.getElem?_append_left (by simpa using hi), List.getElem?_map] at e
    cases q : us[i]? with
    | none => rw [q] at e; cases e
    | some u' =>
      rw [q] at e
      cases e
      obtain ⟨v, hv, rv⟩ := r.get q
      refine ⟨v, ?_, rv⟩
      unfold L2.start
      rw [List.getElem?_append_left (by simpa [r.length] using hi), List.getElem?_map, hv]
      rfl
  · rw [List.getElem?_append_right (by simpa using hi)] at e
    rw [List.getElem?_replicate] at e
    split at e <;> cases e
section
variable {P : Program} {wd : World} {K : Fg} {mg : Str → Option Value} {base : Heap}
theorem fn_ok {G : Pg} {fa : Nat → Addr} {fd : Nat → FuncData}
    (hF : ∀ i d, G.T[i]? = some d → ∃ st, FunD K d.name d.qual (defArgs st) (defBody st) (defScope st) [] [] (fa i) (fd i) ∧ ckF G d st = true ∧ BindP d.name d.qual st d.ps)
    (hmg : ∀ i d, G.T[i]? = some d → d.cls = none → mg d.name = some (.ref (fa i))) (hblt : ∀ x ∈ bltNames, mg x = none) (hcls : ∀ cd ∈ G.cs, ClsK K mg fa cd)
    (hks : ∀ p ∈ G.ks, ∃ t, mg p.1 = some (.int p.2 t)) (hss : ∀ p ∈ G.ss, ∃ t, mg p.1 = some (.str p.2 t)) (hts : ∀ p ∈ G.ts, ∃ a, mg p.1 = some (.ref a) ∧ ∀ z, KTp (K, wd, z) a (p.2.map V.int)) (hds : ∀ p ∈ G.ds, ∃ z v, mg p.1 = some z ∧ RelV v z ∧ ∀ zz H, Rel (K, wd, zz) H v p.2)
    (hxf : ∀ d st, Xf K P mg (G.ck d st)) :
    ∀ (k i : Nat) (d : Df), G.T[i]? = some d → FnOk P wd K mg base (L2.CX P wd) (2 * k) (fa i) (fd i) d.ps (spX (K, wd) ((Cs G.T k).x i)) := by
  intro k
  induction k with
  | zero =>
    intro i d hd
    refine ⟨fun vs H Q E ⟨_, us, M, Qu, _, S, r, h, c⟩ => h.elim, fun A outer s H args us vs Q E _ _ _ _ ⟨_, _, _, _, _, _, _, h, _⟩ => h.elim⟩
  | succ k ih =>
    intro i d hd
    obtain ⟨st, F, ck, _⟩ := hF i d hd
    unfold ckF at ck
    rw [Bool.and_eq_true] at ck
    have ln : ∀ {us : List U} {M : Hm} {Qu : QU} {Eu : XU}, (Cs G.T (k + 1)).x i us M Qu Eu → us.length = d.ps.length := fun {us M Qu Eu} h => by
      obtain ⟨d', hd', hl, _⟩ := h
      rw [hd] at hd'
      cases hd'
      exact hl
    refine F.ok (k := 2 * k + 1) (scope_of ck.1) (fun vs H Q E ⟨z, us, M, Qu, Eu, S, r, h, c, cx⟩ => by rw [r.length]; exact ln h) (fun cdv A outer s H vs Q E hr ⟨z, us, M, Qu, Eu, S, r, h, c, cx⟩ => ?_)
    have Gg : Gd ⟨cxOf (L2.CX P wd) P wd K mg base d.N d.qual (defScope st) (fa i) cdv A outer s H E, S.here⟩ (G.ck d st) (2 * k) fa fd ⟨CsX G.T k, fun cn dx _ M' => Eu cn dx M', none⟩ := by
      refine ⟨rfl, rfl, (scope_of ck.1).nd, rfl, passes_of (X := cxOf (L2.CX P wd) P wd K mg base d.N d.qual (defScope st) (fa i) cdv A outer s H E) rfl, fun _ => ?_, hxf d st, hr, hblt, fun j dj hj => ?_, hcls, hks, hss, fun p hp => let ⟨a, h1, h2⟩ := hts p hp; ⟨a, h1, h2 _⟩, fun p hp => let ⟨y, v, h1, h2, h3⟩ := hds p hp; ⟨y, v, h1, h2, h3 _⟩⟩
      · refine (takes_of (X := cxOf (L2.CX P wd) P wd K mg base d.N d.qual (defScope st) (fa i) cdv A outer s H E) (E := E) rfl rfl rfl rfl).imp fun cls dx σ' H' ⟨cn, σu', M', ec, rs', S', hx⟩ => ?_
        subst ec
        exact cx cn dx H' M' S'.an (S'.anc (S.antr S'.an)) hx
      · obtain ⟨stj, Fj, _, bj⟩ := hF j dj hj
        exact ⟨hmg j dj hj, Fj.kp, Fj.bindsN bj, ih j dj hj⟩
    obtain ⟨t, p, q⟩ := (soundS d.b).2 _ _ (2 * k) fa fd _ Gg (fun _ => rfl) (scope_of ck.1).kind ⟨rfl, rfl⟩ _ ck.2
    refine ⟨t, p, ?_⟩
    obtain ⟨d', hd', hl, hw⟩ := h
    rw [hd] at hd'
    cases hd'
    refine q _ _ _ H _ M (relS_start r.anc) S.now hw ⟨fun σ' H' σu' M' st' rs' S' ⟨M2, sb, hq⟩ => ?_, fun v H' u M' st' S' rv ⟨M2, sb, hq⟩ => ?_, fun _ _ _ _ _ _ _ z => z.elim, fun _ _ _ _ _ _ _ z => z.elim⟩
    · exact c _ _ .non M2 (st'.trans S (Stp.sub sb)) ((S'.anc (S.antr st')).sub sb) .non hq
    · exact c _ _ u M2 (st'.trans S (Stp.sub sb)) ((S'.anc (S.antr st')).sub sb) rv.anc hq
end

/-! ### the head's facts for such a text -/
def nameOf : Stmt → Str
  | .FunctionDef n .. => n
  | _ => ""
/-- a class's i-th statement -/
def inCls (s : Stmt) (i : Nat) : Stmt := match s with
  | .ClassDef (body := b) .. => b.getD i (.Pass ⟨0, 0, 0, 0⟩)
  | _ => .Pass ⟨0, 0, 0, 0⟩
/-- the table against the text, def by def -/
def ckT (G : Pg) (sts : List Stmt) : Bool := decide (G.T.length = sts.length) && (List.zip G.T sts).all fun (p : Df × Stmt) => decide (nameOf p.2 = p.1.name) && ckF G p.1 p.2
theorem ckT_at {G : Pg} {sts : List Stmt} (h : ckT G sts = true) {i : Nat} {d : Df} (hd : G.T[i]? = some d) : ∃ st, sts[i]? = some st ∧ nameOf st = d.name ∧ ckF G d st = true := by
  unfold ckT at h
  rw [Bool.and_eq_true, decide_eq_true_eq] at h
  obtain ⟨h1, h2⟩ := h
  have hi := (List.getElem?_eq_some_iff.mp hd).1
  have hs : sts[i]? = some (sts[i]'(by omega)) := List.getElem?_eq_getElem (by omega)
  have hz : (List.zip G.T sts)[i]? = some (d, sts[i]'(by omega)) := by
    rw [List.getElem?_zip_eq_some]
    exact ⟨hd, hs⟩
  have q := List.all_eq_true.mp h2 _ (List.mem_of_getElem? hz)
  rw [Bool.and_eq_true, decide_eq_true_eq] at q
  exact ⟨_, hs, q.1, q.2⟩
/-- the getter of a property -/
def gtAd (K : Fg) (c m : Str) : Addr := match PySem.W.recIn K (He.ma K (cad K c) m) "property" with
  | some (.ref g :: _) => g
  | _ => 0
/-- where a def lies -/
def adOf (K : Fg) (d : Df) : Addr := match d.cls with
  | none => He.ga K d.name
  | some c => if d.prp = true then gtAd K c d.name else He.ma K (cad K c) d.name
def adAt (T : List Df) (K : Fg) (i : Nat) : Addr := (T[i]?).elim 0 (adOf K)
theorem adAt_of {T : List Df} {K : Fg} {i : Nat} {d : Df} (h : T[i]? = some d) : adAt T K i = adOf K d := by
  unfold adAt
  rw [h]
  rfl
abbrev DefV : Type := Option (Str × Str × Arguments × FuncBody × Scope × Addr × List (Str × Addr) × Addr)
def seeF (K : Fg) (a : Addr) : DefV := match K.lookup a with
  | some ⟨_, _, .func z, _⟩ => some (z.name, z.qualname, z.params, z.body, z.scope, z.globals, z.closure, z.builtins)
  | _ => none
def dueF (p : Df × Stmt) : DefV := some (p.1.name, p.1.qual, defArgs p.2, .stmts (defBody p.2), defScope p.2, mainGlobals, [], builtinsNs)
def isNoneV : Value → Bool
  | .none => true
  | _ => false
def okF (K : Fg) (a : Addr) (q : Str) : Bool := PySem.W.keepIn K (.ref a) && (match K.lookup a with
  | some ⟨_, _, .func z, _⟩ => PySem.W.codeIn K z.code q && isNoneV z.defaults
  | _ => false)
theorem funD_of {K : Fg} {a : Addr} {p : Df × Stmt} (e : seeF K a = dueF p) (c : okF K a p.1.qual = true) : ∃ fd, FunD K p.1.name p.1.qual (defArgs p.2) (defBody p.2) (defScope p.2) [] [] a fd := by
  unfold okF at c
  rw [Bool.and_eq_true] at c
  obtain ⟨c1, c2⟩ := c
  unfold seeF at e
  unfold dueF at e
  cases lk : K.lookup a with
  | none => rw [lk] at e; cases e
  | some ob =>
    obtain ⟨w1, w2, dat, w4⟩ := ob
    rw [lk] at e c2
    cases dat with
    | func z =>
      obtain ⟨z1, z2, z3, z4, z5, z6, z7, z8, z9, z10, z11, z12, z13, z14, z15⟩ := z
      simp only [Option.some.injEq, Prod.mk.injEq] at e
      obtain ⟨g1, g2, g3, g4, g5, g6, g7, g8⟩ := e
      subst g1 g2 g3 g4 g5 g6 g7 g8
      simp only [Bool.and_eq_true] at c2
      obtain ⟨c3, c4⟩ := c2
      cases z8 with
      | none => exact ⟨_, ⟨w1, w2, .none, z9, z10, z11, z12, z13, z14, w4, rfl, lk, c3, .inl ⟨rfl, rfl⟩, .inl rfl⟩, c1⟩
      | _ => cases c4
    | _ => cases c2
/-- a property of a class -/
def okP (K : Fg) (T : List Df) (cn : Str) (q : Str × Nat) : Bool := He.eqO (PySem.W.findIn K (.ref (cad K cn)) q.1) (some (some (.ref (He.ma K (cad K cn) q.1)))) &&
  (decide (PySem.W.specialIn K (.ref (He.ma K (cad K cn) q.1)) "__get__" = some (some (.builtin "property.__get__"))) && (decide (PySem.W.takesIn K (.ref (He.ma K (cad K cn) q.1)) = some true) &&
    (match PySem.W.recIn K (He.ma K (cad K cn) q.1) "property" with
    | some (.ref z :: _) => decide (z = adAt T K q.2)
    | _ => false)))
theorem okP_of {K : Fg} {T : List Df} {cn : Str} {q : Str × Nat} (h : okP K T cn q = true) : ∃ pa, PropOf K (cad K cn) q.1 pa (adAt T K q.2) := by
  unfold okP at h
  simp only [Bool.and_eq_true, decide_eq_true_eq] at h
  obtain ⟨h1, h2, h3, h4⟩ := h
  refine ⟨_, He.eqO_ok h1, h2, h3, ?_⟩
  cases e : PySem.W.recIn K (He.ma K (cad K cn) q.1) "property" with
  | none => rw [e] at h4; cases h4
  | some l =>
    rw [e] at h4
    cases l with
    | nil => cases h4
    | cons v r =>
      cases v with
      | ref z => exact ⟨r, by rw [of_decide_eq_true h4]⟩
      | _ => cases h4
def okC (K : Fg) (T : List Df) (cd : Cd) : Bool := (He.Fa.cls cd.name).ok K && ((cd.flds.all fun f => (He.Fa.noat cd.name f).ok K) && ((cd.mets.all fun q => (He.Fa.meth cd.name q.1).ok K && decide (He.ma K (cad K cd.name) q.1 = adAt T K q.2)) &&
  ((cd.prps.all fun q => okP K T cd.name q) && (match cd.init with
  | none => true
  | some i => (He.Fa.mkr cd.name).ok K && ((He.Fa.glo cd.name).ok K && decide (He.ma K (cad K cd.name) "__init__" = adAt T K i))))))
theorem okC_of {K : Fg} {h : Heap} {mg : Str → Option Value} (X : K.In h) (G : h.Ns mainGlobals mg) {T : List Df} {cd : Cd} (c : okC K T cd = true) : ClsK K mg (adAt T K) cd := by
  unfold okC at c
  simp only [Bool.and_eq_true, List.all_eq_true] at c
  obtain ⟨c1, c2, c3, c4, c5⟩ := c
  refine ⟨He.cls_ok c1, fun f hf => He.noat_ok (c2 f hf), fun q hq => ?_, fun q hq => okP_of (c4 q hq), fun i hi => ?_⟩
  · obtain ⟨a, b⟩ := c3 q hq
    rw [← of_decide_eq_true b]
    exact He.meth_ok a
  · rw [hi] at c5
    simp only [Bool.and_eq_true] at c5
    obtain ⟨a, b, d⟩ := c5
    rw [← of_decide_eq_true d]
    exact ⟨He.mkr_ok a, He.glo_ok X G b⟩
/-- a tuple of numbers that the module holds -/
def isInts : List Int → List Value → Bool
  | [], [] => true
  | i :: is, .int j _ :: vs => decide (i = j) && isInts is vs
  | _, _ => false
theorem isInts_ok : ∀ {is : List Int} {vs : List Value}, isInts is vs = true → Vals (is.map V.int) vs
  | [], [], _ => .nil
  | i :: is, .int j t :: vs, h => by
    unfold isInts at h
    rw [Bool.and_eq_true, decide_eq_true_eq] at h
    rw [h.1]
    exact .cons ⟨t, rfl⟩ (isInts_ok h.2)
def okT (K : Fg) (p : Str × List Int) : Bool := (He.Fa.glo p.1).ok K && (match K.lookup (He.ga K p.1) with
  | some o => decide (o.cls = .type "tuple") && (match o.data with
    | .seq its _ => decide (its.size ≤ sizeLine) && isInts p.2 its.toList
    | _ => false)
  | none => false) && !p.2.isEmpty
theorem okT_of {K : Fg} {h : Heap} {mg : Str → Option Value} {wd : World} (X : K.In h) (G : h.Ns mainGlobals mg) {p : Str × List Int} (c : okT K p = true) : ∃ a, mg p.1 = some (.ref a) ∧ ∀ z, KTp (K, wd, z) a (p.2.map V.int) := by
  unfold okT at c
  rw [Bool.and_eq_true, Bool.and_eq_true] at c
  obtain ⟨⟨c1, c2⟩, c0⟩ := c
  have c0 : ∃ i r, p.2.map V.int = V.int i :: r := by
    cases e : p.2 with
    | nil => rw [e] at c0; cases c0
    | cons i r => exact ⟨i, r.map V.int, rfl⟩
  refine ⟨_, He.glo_ok X G c1, fun zz => ⟨c0, ?_⟩⟩
  cases lk : K.lookup (He.ga K p.1) with
  | none => rw [lk] at c2; cases c2
  | some o =>
    rw [lk] at c2
    simp only [Bool.and_eq_true, decide_eq_true_eq] at c2
    obtain ⟨c3, c4⟩ := c2
    cases hd : o.data with
    | seq its n =>
      rw [hd] at c4
      simp only [Bool.and_eq_true, decide_eq_true_eq] at c4
      exact ⟨o, its, n, rfl, c3, hd, c4.1, isInts_ok c4.2⟩
    | _ => rw [hd] at c4; cases c4
def flatD : Value → U → Bool
  | .int i _, .int j => decide (i = j)
  | .str x _, .str y => decide (x = y)
  | _, _ => false
def all2D (f : Value → U → Bool) : List Value → List U → Bool
  | [], [] => true
  | v :: vs, u :: us => f v u && all2D f vs us
  | _, _ => false
def tupD (K : Fg) (f : List Value → List U → Bool) : Value → U → Bool
  | .ref a, .dtp l => (match K.lookup a with
    | some o => (decide (o.cls = .type "tuple") && (match o.dict with | none => true | some _ => false) && decide (o.slots.size = 0)) && (match o.data with
      | .seq its _ => decide (its.size ≤ sizeLine) && f its.toList l
      | _ => false)
    | none => false)
  | _, _ => false
/-- data that the module holds -/
def okD (K : Fg) : Nat → Value → U → Bool
  | 0, z, u => flatD z u
  | n + 1, z, u => flatD z u || tupD K (all2D (okD K n)) z u
theorem flatD_of {K : Fg} {wd : World} {z : Value} {u : U} (h : flatD z u = true) : ∃ v, RelV v z ∧ ∀ zz H, Rel (K, wd, zz) H v u := by
  unfold flatD at h
  split at h
  · rename_i i t j
    have h := of_decide_eq_true h
    subst h
    exact ⟨.int i, ⟨t, rfl⟩, fun _ _ => .int i⟩
  · rename_i x t y
    have h := of_decide_eq_true h
    subst h
    exact ⟨.str x, ⟨t, rfl⟩, fun _ _ => .str x⟩
  · cases h
theorem all2D_of {K : Fg} {wd : World} {f : Value → U → Bool} (hf : ∀ z u, f z u = true → ∃ v, RelV v z ∧ ∀ zz H, Rel (K, wd, zz) H v u) : ∀ (zs : List Value) (us : List U), all2D f zs us = true → ∃ vs, Vals vs zs ∧ ∀ zz H, RelL (K, wd, zz) H vs us
  | [], [], _ => ⟨[], .nil, fun _ _ => .nil⟩
  | z :: zs, u :: us, h => by
    unfold all2D at h
    rw [Bool.and_eq_true] at h
    obtain ⟨v, h1, h2⟩ := hf z u h.1
    obtain ⟨vs, h3, h4⟩ := all2D_of hf zs us h.2
    exact ⟨v :: vs, .cons h1 h3, fun zz H => .cons (h2 zz H) (h4 zz H)⟩
  | [], _ :: _, h => by cases h
  | _ :: _, [], h => by cases h
theorem tupD_of {K : Fg} {wd : World} {f : List Value → List U → Bool} (hf : ∀ zs us, f zs us = true → ∃ vs, Vals vs zs ∧ ∀ zz H, RelL (K, wd, zz) H vs us) {z : Value} {u : U} (h : tupD K f z u = true) : ∃ v, RelV v z ∧ ∀ zz H, Rel (K, wd, zz) H v u := by
  unfold tupD at h
  split at h
  · rename_i a l
    cases lk : K.lookup a with
    | none => rw [lk] at h; cases h
    | some o =>
      rw [lk] at h
      simp only [Bool.and_eq_true, decide_eq_true_eq] at h
      obtain ⟨⟨⟨c1, c2⟩, c3⟩, c4⟩ := h
      have c2 : o.dict = none := by
        cases e : o.dict with
        | none => rfl
        | some _ => rw [e] at c2; cases c2
      cases hd : o.data with
      | seq its m =>
        rw [hd] at c4
        simp only [Bool.and_eq_true, decide_eq_true_eq] at c4
        obtain ⟨vs, hv, hr⟩ := hf its.toList l c4.2
        exact ⟨.ref a, rfl, fun zz H => .dtp (.inr ⟨o, its, m, ⟨lk, c1, hd, c4.1, hv⟩, c2, Array.eq_empty_of_size_eq_zero c3⟩) (hr zz H)⟩
      | _ => rw [hd] at c4; cases c4
  · cases h
theorem okD_of {K : Fg} {wd : World} : ∀ (n : Nat) (z : Value) (u : U), okD K n z u = true → ∃ v, RelV v z ∧ ∀ zz H, Rel (K, wd, zz) H v u
  | 0, z, u, h => flatD_of h
  | n + 1, z, u, h => by
    unfold okD at h
    rw [Bool.or_eq_true] at h
    rcases h with h | h
    · exact flatD_of h
    · exact tupD_of (all2D_of (okD_of n)) h
def okDt (K : Fg) (p : Str × U) : Bool := (He.Fa.glo p.1).ok K && okD K 3 (.ref (He.ga K p.1)) p.2
theorem okDt_of {K : Fg} {h : Heap} {mg : Str → Option Value} {wd : World} (X : K.In h) (G : h.Ns mainGlobals mg) {p : Str × U} (c : okDt K p = true) : ∃ z v, mg p.1 = some z ∧ RelV v z ∧ ∀ zz H, Rel (K, wd, zz) H v p.2 := by
  unfold okDt at c
  rw [Bool.and_eq_true] at c
  obtain ⟨v, h1, h2⟩ := okD_of (wd := wd) 3 _ _ c.2
  exact ⟨_, v, He.glo_ok X G c.1, h1, h2⟩
/-! errors -/
/-- an error class, its own __init__ -/
def xAd (K : Fg) (x : Xd) : Addr := He.ma K (cad K x.name) "__init__"
def seeI (K : Fg) (a : Addr) : DefV := match K.lookup a with
  | some ⟨_, _, .func z, _⟩ => some (z.name, z.qualname, z.params, z.body, z.scope, z.globals, z.closure.map (fun p => (p.1, 0)), z.builtins)
  | _ => none
def dueI (x : Xd) : DefV := some ("__init__", x.name ++ ".__init__", defArgs x.st, .stmts (defBody x.st), defScope x.st, mainGlobals, [(("__class__" : Str), 0)], builtinsNs)
/-- its arguments bind -/
def BindPX (x : Xd) : Prop := ∀ (kV doc pm : Value) (an : Option Addr) (cdv ct : Value) (cc : Addr) (us : List Value), us.length = x.ps.length →
  bindArgs (PySem.W.fnX "__init__" (x.name ++ ".__init__") (defArgs x.st) (defBody x.st) (defScope x.st) [(("__class__" : Str), cc)] .none kV doc pm an cdv ct) ⟨us, []⟩ = pure (x.ps.zip us)
def AllBx : List Xd → Prop
  | [] => True
  | x :: r => BindPX x ∧ AllBx r
theorem AllBx.mem : ∀ {l : List Xd}, AllBx l → ∀ x ∈ l, BindPX x
  | [], _, _, h => nomatch h
  | q :: r, a, p, h => by
    rcases List.mem_cons.mp h with h | h
    · rw [h]; exact a.1
    · exact a.2.mem p h
def scI (sc : Scope) (nS : Str) : Bool := decide (sc.kind = .function) && (!sc.isCoroutine && (!sc.isGenerator && ((sc.names.all fun y => decide (y.2 ≠ .cell)) && (decide (sc.names.lookup ("super" : Str) = some .globalImplicit) && (decide (sc.names.lookup ("__class__" : Str) = some .free) && decide (sc.names.lookup nS = some .local))))))
def parI (a : Arguments) (nS : Str) : Bool := match (a.posonlyargs ++ a.args).head? with
  | some ar => decide (ar.arg = nS)
  | none => false
/-- its text -/
def ckI1 (f : Str) (b : List Stmt) (nS xN : Str) : Bool := match b with
  | [.Expr (.Call (.Attribute (.Call (.Name s _) [] [] _) i p2) [arg] [] p3) _, .Assign [.Attribute (.Name y _) g _] (.Name z _) _] =>
    decide (s = "super") && (decide (i = "__init__") && (decide (g = f) && (decide (y = nS) && (decide (z = xN) && (Xo.argB xN arg && (p2.endLine == p3.line))))))
  | _ => false
def ckI0 (b : List Stmt) : Bool := match b with
  | [.Expr (.Call (.Attribute (.Call (.Name s _) [] [] _) i p2) [.Constant (.str _) _ _] [] p3) _] => decide (s = "super") && (decide (i = "__init__") && (p2.endLine == p3.line))
  | _ => false
def ckXd (x : Xd) : Bool := match x.fld, x.ps with
  | some f, [nS, xN] => scI (defScope x.st) nS && (parI (defArgs x.st) nS && (ckI1 f (defBody x.st) nS xN && (decide ((defScope x.st).names.lookup xN = some .local) && (!(xN == ("__debug__" : Str)) && (!(nS == ("__debug__" : Str)) && !(xN == nS))))))
  | none, [nS] => scI (defScope x.st) nS && (parI (defArgs x.st) nS && ckI0 (defBody x.st))
  | _, _ => false
def clsI (K : Fg) (C : Addr) : Bool := match K.lookup C with
  | some ⟨.type "type", _, .cls cd, sl⟩ => (match cd.mro, sl.toList with
    | .ref C2 :: bm, [_, _, _, _, some (.builtin n), _] => C2 == C && (n == "ValueError.__new__" && (!cd.hasDel && (cd.hasDict && PySem.HandSPX.refsVE bm)))
    | _, _ => false)
  | _ => false
theorem clsI_of {K : Fg} {C : Addr} (h : clsI K C = true) : ∃ nm q N bs bm sn sub ab col dd k0 k1 k2 k3 k5, K.lookup C = some (excClassObj nm q C N bs bm true sn sub ab col dd k0 k1 k2 k3 k5 "ValueError.__new__") ∧ PySem.HandSPX.refsVE bm = true := by
  unfold clsI at h
  split at h
  · rename_i dd cd sl ho
    split at h
    · rename_i C2 bm k0 k1 k2 k3 n k5 hm hs
      simp only [Bool.and_eq_true, beq_iff_eq, Bool.not_eq_true'] at h
      obtain ⟨rfl, rfl, hdel, hdict, hr⟩ := h
      obtain ⟨nm, bs, mro, ns, qn, hd, sn, sub, ab, col, del⟩ := cd
      dsimp only at hm hdel hdict
      subst hm hdel hdict
      have hsl : sl = #[k0, k1, k2, k3, some (.builtin "ValueError.__new__"), k5] := by
        obtain ⟨l⟩ := sl
        simp only at hs
        rw [hs]
      subst hsl
      exact ⟨nm, qn, ns, bs, bm, sn, sub, ab, col, dd, k0, k1, k2, k3, k5, ho, hr⟩
    · cases h
  · cases h
def fnI (K : Fg) (file : Str) (C a : Addr) : Bool := match K.lookup a with
  | some ⟨_, _, .func z, _⟩ => (match z.closure with
    | [(_, cc)] => (match K.lookup cc with | some ⟨_, _, .cell (some (.ref D)), _⟩ => D == C | _ => false)
    | _ => false) && ((match z.code with
    | .ref cda => PySem.W.codeIn K (.ref cda) z.qualname && (match K.lookup cda with
      | some ⟨_, _, .fields vs, _⟩ => (match (vs[2]? : Option Value) with | some (.str f _) => f == file | _ => false)
      | _ => false)
    | _ => false) && isNoneV z.defaults)
  | _ => false
def excB (K : Fg) (D : Addr) : Bool := decide (PySem.W.findIn K (.ref D) "__getattribute__" = some (some (.builtin "BaseException.__getattribute__"))) && (decide (PySem.W.findIn K (.ref D) "__getattr__" = some none) && (decide (PySem.W.subIn K (.ref D) (.type "BaseException") = some true) && (PySem.W.hasDictIn K D &&
  (decide (PySem.W.findIn K (.ref D) "__class__" = some (some (.builtin "object.__class__"))) && (decide (PySem.W.specialIn K (.builtin "object.__class__") "__get__" = some (some (.builtin "getset_descriptor.__get__"))) && (decide (PySem.W.takesIn K (.builtin "object.__class__") = some true) &&
    decide (PySem.W.mroIn K D (.type "object") = some true)))))))
theorem excB_of {K : Fg} {D : Addr} (h : excB K D = true) : ExcC K D := by
  unfold excB at h
  simp only [Bool.and_eq_true, decide_eq_true_eq] at h
  obtain ⟨h1, h2, h3, h4, h5, h6, h7, h8⟩ := h
  exact ⟨h1, h2, h3, h4, h5, h6, h7, h8⟩
def okXd (K : Fg) (file : Str) (x : Xd) : Bool := (He.Fa.glo x.name).ok K && (clsI K (cad K x.name) && (excB K (cad K x.name) && (fnI K file (cad K x.name) (xAd K x) && (decide (PySem.W.findIn K (.ref (cad K x.name)) "__init__" = some (some (.ref (xAd K x)))) && (decide (PySem.W.typeIn K (.ref (xAd K x)) = some (.type "function")) &&
  (decide (PySem.W.findIn K (.ref (cad K x.name)) "__setattr__" = some (some (.builtin "object.__setattr__"))) && (decide (PySem.W.typeIn K (.ref (cad K x.name)) = some (.type "type")) && (PySem.W.keepIn K (.ref (cad K x.name)) && (decide (PySem.W.mroIn K (cad K x.name) (.ref (cad K x.name)) = some true) &&
    (decide (PySem.W.ks_superIn K (cad K x.name) (cad K x.name) "__init__" = some (some (.builtin Xo.vei))) && (decide (PySem.W.subIn K (.ref (cad K x.name)) (.type "ValueError") = some true) && (decide (PySem.W.nsIn K cStatics "thirdparty.any" = some none) && (match x.fld with
      | some f => decide (PySem.W.findIn K (.ref (cad K x.name)) f = some none)
      | none => true)))))))))))))
section
variable {K : Fg} {P : Program} {file : Str} {x : Xd} {h : Heap} {mg : Str → Option Value}
theorem xfn_of (hfile : ((P.main.file : Str) == file) = true) (ok : okXd K file x = true) (e : seeI K (xAd K x) = dueI x) : ∃ cda cc kV doc pm an ct, Xo.XFn K P (cad K x.name) (xAd K x) cda cc (PySem.W.fnX "__init__" (x.name ++ ".__init__") (defArgs x.st) (defBody x.st) (defScope x.st) [(("__class__" : Str), cc)] .none kV doc pm an (.ref cda) ct) := by
  unfold okXd at ok
  simp only [Bool.and_eq_true, decide_eq_true_eq] at ok
  obtain ⟨o1, o2, o3, o4, o5, o6, o7, o8, o9, o10, o11, o12, o13, o14⟩ := ok
  have T := excB_of o3
  unfold seeI dueI at e
  unfold fnI at o4
  cases lk : K.lookup (xAd K x) with
  | none => rw [lk] at e; cases e
  | some ob =>
    obtain ⟨w1, w2, dat, w4⟩ := ob
    rw [lk] at e o4
    cases dat with
    | func z =>
      obtain ⟨z1, z2, z3, z4, z5, z6, z7, z8, z9, z10, z11, z12, z13, z14, z15⟩ := z
      simp only [Option.some.injEq, Prod.mk.injEq] at e
      obtain ⟨g1, g2, g3, g4, g5, g6, g7, g8⟩ := e
      simp only [Bool.and_eq_true] at o4
      obtain ⟨c1, c2, c3⟩ := o4
      split at c1
      · rename_i y cc
        have gy : y = "__class__" := congrArg Prod.fst (List.cons.inj g7).1
        subst g1 g2 g3 g4 g5 g6 g8 gy
        split at c1
        · rename_i b1 b2 D b3 hcell
          have eD : D = cad K x.name := beq_iff_eq.mp c1
          subst eD
          split at c2
          · rename_i cda
            rw [Bool.and_eq_true] at c2
            obtain ⟨c4, c5⟩ := c2
            split at c5
            · rename_i d1 d2 vs d3 hcd
              split at c5
              · rename_i ff tf hvs
                have ef : ff = file := beq_iff_eq.mp c5
                subst ef
                cases z8 with
                | none =>
                  exact ⟨cda, cc, z9, z10, z11, z12, z14, { ox := ⟨clsI_of o2, o7, T.hs, o8, o9⟩, iC := o5, tI := o6, fn := ⟨_, _, _, lk⟩, cl := rfl, gl := rfl, bn := rfl, cd := rfl, cdn := c4, cdr := ⟨_, _, _, _, _, _, hcd, hvs, hfile⟩, cell := ⟨_, _, _, hcell⟩, me := o10, up := o11, ve := o12, any := o13 }⟩
                | _ => cases c3
              · cases c5
            · cases c5
          · cases c2
        · cases c1
      · cases c1
    | _ => cases e
theorem xsc_of {fd : FuncData} {nS : Str} (h1 : scI fd.scope nS = true) (h2 : parI fd.params nS = true) (htop : (P.main.scope.names.lookup ("super" : Str)).isSome = false) (hm : mg "super" = none) : Xo.XSc P mg nS fd := by
  unfold scI at h1
  simp only [Bool.and_eq_true, decide_eq_true_eq, Bool.not_eq_true', List.all_eq_true] at h1
  obtain ⟨s1, s2, s3, s4, s5, s6, s7⟩ := h1
  unfold parI at h2
  refine ⟨s1, s2, s3, s4, s5, s6, s7, ?_, htop, hm⟩
  split at h2
  · rename_i ar har
    exact ⟨ar, har, of_decide_eq_true h2⟩
  · cases h2
theorem xone_of {f : Str} (hf : x.fld = some f) (hfile : ((P.main.file : Str) == file) = true) (htop : (P.main.scope.names.lookup ("super" : Str)).isSome = false) (hm : mg "super" = none) (hat : mg x.name = some (.ref (cad K x.name))) (ok : okXd K file x = true) (e : seeI K (xAd K x) = dueI x) (ck : ckXd x = true) (bd : BindPX x) : Xo.XOne K P mg x.name f (cad K x.name) := by
  obtain ⟨cda, cc, kV, doc, pm, an, ct, XF⟩ := xfn_of hfile ok e
  have hfl : PySem.W.findIn K (.ref (cad K x.name)) f = some none := by
    unfold okXd at ok
    simp only [Bool.and_eq_true, decide_eq_true_eq] at ok
    have q := ok.2.2.2.2.2.2.2.2.2.2.2.2.2
    rw [hf] at q
    exact of_decide_eq_true q
  unfold ckXd at ck
  rw [hf] at ck
  split at ck
  · rename_i f' nS xN hf' hps
    cases hf'
    simp only [Bool.and_eq_true, decide_eq_true_eq, Bool.not_eq_true'] at ck
    obtain ⟨k1, k2, k3, k4, k5, k6, k7⟩ := ck
    refine ⟨?_, hat, hfl⟩
    have XS := xsc_of (P := P) (mg := mg) (fd := PySem.W.fnX "__init__" (x.name ++ ".__init__") (defArgs x.st) (defBody x.st) (defScope x.st) [(("__class__" : Str), cc)] .none kV doc pm an (.ref cda) ct) k1 k2 htop hm
    have bnd : ∀ (s : Shared) (a b : Value), BindsTo s (PySem.W.fnX "__init__" (x.name ++ ".__init__") (defArgs x.st) (defBody x.st) (defScope x.st) [(("__class__" : Str), cc)] .none kV doc pm an (.ref cda) ct) ⟨[a, b], []⟩ [(nS, a), (xN, b)] := fun s a b => by
      have q := bd kV doc pm an (.ref cda) ct cc [a, b] (by rw [hps]; rfl)
      rw [hps] at q
      exact BindsTo.of_eq q
    generalize hb : defBody x.st = body at *
    unfold ckI1 at k3
    split at k3
    · rename_i s p0 p1 i p2 arg p3 p4 y p5 g p6 z p7 p8
      simp only [Bool.and_eq_true, decide_eq_true_eq] at k3
      obtain ⟨rfl, rfl, rfl, rfl, rfl, k8, k9⟩ := k3
      exact ⟨_, _, _, _, _, _, _, _, _, _, _, _, _, _, _, _, XF, XS, k8, k9, rfl, k4, k5, k6, k7, bnd⟩
    · cases k3
  · rename_i h1 h2
    cases h1
  · cases ck
theorem xnil_of (hf : x.fld = none) (hfile : ((P.main.file : Str) == file) = true) (htop : (P.main.scope.names.lookup ("super" : Str)).isSome = false) (hm : mg "super" = none) (hat : mg x.name = some (.ref (cad K x.name))) (ok : okXd K file x = true) (e : seeI K (xAd K x) = dueI x) (ck : ckXd x = true) (bd : BindPX x) : Xo.XNil K P mg x.name (cad K x.name) := by
  obtain ⟨cda, cc, kV, doc, pm, an, ct, XF⟩ := xfn_of hfile ok e
  unfold ckXd at ck
  rw [hf] at ck
  split at ck
  · rename_i h1 h2
    cases h1
  · rename_i nS _ hps
    simp only [Bool.and_eq_true] at ck
    obtain ⟨k1, k2, k3⟩ := ck
    refine ⟨?_, hat⟩
    have XS := xsc_of (P := P) (mg := mg) (fd := PySem.W.fnX "__init__" (x.name ++ ".__init__") (defArgs x.st) (defBody x.st) (defScope x.st) [(("__class__" : Str), cc)] .none kV doc pm an (.ref cda) ct) k1 k2 htop hm
    have bnd : ∀ (s : Shared) (a : Value), BindsTo s (PySem.W.fnX "__init__" (x.name ++ ".__init__") (defArgs x.st) (defBody x.st) (defScope x.st) [(("__class__" : Str), cc)] .none kV doc pm an (.ref cda) ct) ⟨[a], []⟩ [(nS, a)] := fun s a => by
      have q := bd kV doc pm an (.ref cda) ct cc [a] (by rw [hps]; rfl)
      rw [hps] at q
      exact BindsTo.of_eq q
    generalize hb : defBody x.st = body at *
    unfold ckI0 at k3
    split at k3
    · rename_i s p0 p1 i p2 y j pc p3 p4
      simp only [Bool.and_eq_true, decide_eq_true_eq] at k3
      obtain ⟨rfl, rfl, k9⟩ := k3
      exact ⟨_, _, _, _, _, _, _, _, _, _, _, _, _, XF, XS, k9, rfl, bnd⟩
    · cases k3
  · cases ck
end
/-- all that the head must tell -/
def facts (G : Pg) : List He.Fa := ((G.T.filter fun d => decide (d.cls = none)).map fun d => .glo d.name) ++ (bltNames.map He.Fa.free ++ (G.ks.map (fun p => He.Fa.int p.1 p.2) ++ G.ss.map fun p => He.Fa.str p.1 p.2))
/-- the errors -/
def okXs (G : Pg) (K : Fg) : Bool := (G.xds.all fun x => okXd K G.file x && xfB K (cad K x.name)) && ((G.xnm.all fun z => (He.Fa.glo z).ok K) && ((G.isxs.all fun p => (p.2.1.all fun y => decide (PySem.W.kitAny K (.ref (cad K y)) (p.1.map (clv K)) = some true)) && p.2.2.all fun y => decide (PySem.W.kitAny K (.ref (cad K y)) (p.1.map (clv K)) = some false)) &&
  G.hds.all fun p => (p.2.1.all fun y => decide (PySem.W.exmOne K (.ref (cad K y)) (.ref (cad K p.1)) = some true)) && p.2.2.all fun y => decide (PySem.W.exmOne K (.ref (cad K y)) (.ref (cad K p.1)) = some false)))
abbrev AlX : Type := Bool × List DefV × List DefV
def obsX (G : Pg) (K : Fg) : AlX := (((facts G).all fun f => f.ok K) && ((G.T.all fun d => okF K (adOf K d) d.qual) && ((G.cs.all fun cd => okC K G.T cd) && (G.ts.all fun p => okT K p) && G.ds.all fun p => okDt K p)) && okXs G K, G.T.map (fun d => seeF K (adOf K d)), G.xds.map fun x => seeI K (xAd K x))
def valX (G : Pg) (sts : List Stmt) : AlX := (true, (List.zip G.T sts).map dueF, G.xds.map dueI)
def SaysX (G : Pg) (sts : List Stmt) (K : Fg) : Prop := obsX G K = valX G sts
/-- what lies within n steps of the module's names, each address once: the met ones as bits -/
def bitX (s : Nat) (a : Addr) : Bool := Nat.beq (Nat.land (Nat.shiftRight s a) 1) 1
def addX : List Addr → Nat → List Addr → Nat × List Addr
  | [], s, o => (s, o)
  | a :: r, s, o => match bitX s a with
    | true => addX r s o
    | false => addX r (Nat.lor s (Nat.shiftLeft 1 a)) (a :: o)
def rowX (g : Addr → Option Obj) : List Addr → Nat → List Addr → Nat × List Addr
  | [], s, o => (s, o)
  | a :: r, s, o => match g a with
    | none => rowX g r s o
    | some x => match addX (He.refsD x) s o with
      | (s', o') => rowX g r s' o'
def asX (g : Addr → Option Obj) : Nat → Nat → List Addr → Nat × List Addr
  | 0, s, l => (s, l)
  | n + 1, s, l => match rowX g l s [] with
    | (s', o) => match asX g n s' o with
      | (s2, o2) => (s2, l ++ o2)
theorem bitX_test (s : Nat) (a : Addr) : bitX s a = s.testBit a := by
  have e : bitX s a = decide ((s >>> a) &&& 1 = 1) := by
    unfold bitX
    show Nat.beq ((s >>> a) &&& 1) 1 = _
    by_cases h : (s >>> a) &&& 1 = 1
    · rw [h]; rfl
    · rw [decide_eq_false h]
      exact Bool.eq_false_iff.mpr fun z => h (Nat.eq_of_beq_eq_true z)
  rw [e]
  unfold Nat.testBit
  rw [Nat.and_comm 1, Nat.and_one_is_mod]
  rcases Nat.mod_two_eq_zero_or_one (s >>> a) with h | h <;> rw [h] <;> rfl
theorem bitX_or (s : Nat) (a b : Addr) : bitX (Nat.lor s (Nat.shiftLeft 1 a)) b = true → bitX s b = true ∨ b = a := by
  rw [bitX_test, bitX_test]
  show (s ||| 1 <<< a).testBit b = true → _
  rw [Nat.testBit_or, Nat.testBit_shiftLeft, Bool.or_eq_true]
  rintro (h | h)
  · exact .inl h
  · rw [Bool.and_eq_true, decide_eq_true_eq] at h
    have h2 := h.2
    rw [Nat.testBit_one_eq_true_iff_self_eq_zero] at h2
    exact .inr (Nat.le_antisymm (Nat.le_of_sub_eq_zero h2) h.1)
theorem addX_ok : ∀ (r : List Addr) (s : Nat) (o : List Addr), (∀ b, b ∈ o → b ∈ (addX r s o).2) ∧ ∀ b, bitX (addX r s o).1 b = true → bitX s b = true ∨ b ∈ (addX r s o).2
  | [], s, o => ⟨fun _ h => h, fun _ h => .inl h⟩
  | a :: r, s, o => by
    unfold addX
    cases h : bitX s a with
    | true => exact addX_ok r s o
    | false =>
      obtain ⟨h1, h2⟩ := addX_ok r (Nat.lor s (Nat.shiftLeft 1 a)) (a :: o)
      refine ⟨fun b hb => h1 b (List.mem_cons_of_mem _ hb), fun b hb => ?_⟩
      rcases h2 b hb with h3 | h3
      · rcases bitX_or s a b h3 with h4 | h4
        · exact .inl h4
        · exact .inr (h1 b (h4 ▸ List.mem_cons_self))
      · exact .inr h3
theorem rowX_ok (g : Addr → Option Obj) : ∀ (r : List Addr) (s : Nat) (o : List Addr), (∀ b, b ∈ o → b ∈ (rowX g r s o).2) ∧ ∀ b, bitX (rowX g r s o).1 b = true → bitX s b = true ∨ b ∈ (rowX g r s o).2
  | [], s, o => ⟨fun _ h => h, fun _ h => .inl h⟩
  | a :: r, s, o => by
    unfold rowX
    cases g a with
    | none => exact rowX_ok g r s o
    | some x =>
      obtain ⟨h1, h2⟩ := addX_ok (He.refsD x) s o
      obtain ⟨h3, h4⟩ := rowX_ok g r (addX (He.refsD x) s o).1 (addX (He.refsD x) s o).2
      refine ⟨fun b hb => h3 b (h1 b hb), fun b hb => ?_⟩
      rcases h4 b hb with h5 | h5
      · rcases h2 b h5 with h6 | h6
        · exact .inl h6
        · exact .inr (h3 b h6)
      · exact .inr h5
theorem asX_ok (g : Addr → Option Obj) : ∀ (n s : Nat) (l : List Addr), (∀ b, b ∈ l → b ∈ (asX g n s l).2) ∧ ∀ b, bitX (asX g n s l).1 b = true → bitX s b = true ∨ b ∈ (asX g n s l).2
  | 0, s, l => ⟨fun _ h => h, fun _ h => .inl h⟩
  | n + 1, s, l => by
    obtain ⟨h1, h2⟩ := rowX_ok g l s []
    obtain ⟨h3, h4⟩ := asX_ok g n (rowX g l s []).1 (rowX g l s []).2
    refine ⟨fun b hb => List.mem_append_left _ hb, fun b hb => ?_⟩
    rcases h4 b hb with h5 | h5
    · rcases h2 b h5 with h6 | h6
      · exact .inl h6
      · exact .inr (List.mem_append_right _ (h3 b h6))
    · exact .inr (List.mem_append_right _ h5)
theorem frG_to {g : Addr → Option Obj} {a : Addr} : ∀ {as : List Addr}, a ∈ as → (He.frG g as).lookup a = g a
  | b :: r, h => by
    show ((b :: r).filterMap fun a => (g a).map fun o => (a, o)).lookup a = g a
    rw [List.filterMap_cons]
    by_cases e : b = a
    · subst e
      cases hb : g b with
      | none =>
        show (He.frG g r).lookup b = none
        cases q : (He.frG g r).lookup b with
        | none => rfl
        | some o =>
          have := He.frG_at r q
          rw [hb] at this
          cases this
      | some o => exact List.lookup_cons_self
    · have hm : a ∈ r := by
        rcases List.mem_cons.mp h with h | h
        · exact absurd h.symm e
        · exact h
      cases hb : g b with
      | none => exact frG_to hm
      | some o =>
        show List.lookup a ((b, o) :: He.frG g r) = g a
        rw [List.lookup_cons, show (a == b) = false from beq_eq_false_iff_ne.mpr (Ne.symm e)]
        exact frG_to hm
/-- okF, seeF off the objects themselves -/
def okG (g : Addr → Option Obj) (s : Nat) (a : Addr) (q : Str) : Bool := bitX s a && (match g a with
  | some ⟨_, _, .func z, _⟩ => (match z.code with
    | .ref c => bitX s c && (match g c with
      | some ⟨_, _, .fields vs, _⟩ => (match vs.toList with | _ :: .str n _ :: _ => n == q | _ => false)
      | _ => false)
    | _ => false) && isNoneV z.defaults
  | _ => false)
def seeG (g : Addr → Option Obj) (a : Addr) : DefV := match g a with
  | some ⟨_, _, .func z, _⟩ => some (z.name, z.qualname, z.params, z.body, z.scope, z.globals, z.closure, z.builtins)
  | _ => none
theorem okG_ok {g : Addr → Option Obj} {as : List Addr} {s : Nat} (hs : ∀ a, bitX s a = true → a ∈ as) {a : Addr} {q : Str} (h : okG g s a q = true) : okF (He.frG g as) a q = true ∧ seeF (He.frG g as) a = seeG g a := by
  unfold okG at h
  rw [Bool.and_eq_true] at h
  obtain ⟨h1, h2⟩ := h
  have e := frG_to (g := g) (hs a h1)
  cases ha : g a with
  | none => rw [ha] at h2; cases h2
  | some o =>
    obtain ⟨w1, w2, dat, w4⟩ := o
    rw [ha] at h2 e
    cases dat with
    | func z =>
      simp only [Bool.and_eq_true] at h2
      obtain ⟨h3, h4⟩ := h2
      have hc : PySem.W.codeIn (He.frG g as) z.code q = true := by
        cases hc : z.code with
        | ref c =>
          rw [hc] at h3
          simp only [Bool.and_eq_true] at h3
          show (match (He.frG g as).lookup c with
            | some ⟨_, _, .fields vs, _⟩ => (match vs.toList with | _ :: .str n _ :: _ => n == q | _ => false)
            | _ => false) = true
          rw [frG_to (g := g) (hs c h3.1)]
          exact h3.2
        | _ => rw [hc] at h3; cases h3
      have hk : PySem.W.keepIn (He.frG g as) (.ref a) = true := by
        show (match (He.frG g as).lookup a with
          | some ⟨_, _, .func _, _⟩ => true
          | some ⟨_, _, .cls _, _⟩ => PySem.W.specialIn (He.frG g as) (.ref a) "__call__" == some (some (.builtin "type.__call__"))
          | _ => false) = true
        rw [e]
      refine ⟨?_, ?_⟩
      · unfold okF
        rw [hk, e, Bool.true_and]
        show (PySem.W.codeIn (He.frG g as) z.code q && isNoneV z.defaults) = true
        rw [hc, h4]
        rfl
      · unfold seeF seeG
        rw [e, ha]
    | _ => cases h2
def frX (n : Nat) (g : Addr → Option Obj) : Fg := He.frG g (cStatics :: (asX g n (Nat.shiftLeft 1 mainGlobals) [mainGlobals]).2)
def obsXG (n : Nat) (G : Pg) (g : Addr → Option Obj) : AlX :=
  (((facts G).all fun f => f.ok (frX n g)) && ((G.T.all fun d => okG g (asX g n (Nat.shiftLeft 1 mainGlobals) [mainGlobals]).1 (adOf (frX n g) d) d.qual) && ((G.cs.all fun cd => okC (frX n g) G.T cd) && (G.ts.all fun p => okT (frX n g) p) && G.ds.all fun p => okDt (frX n g) p)) && okXs G (frX n g), G.T.map (fun d => seeG g (adOf (frX n g) d)), G.xds.map fun x => seeI (frX n g) (xAd (frX n g) x))
theorem obsXG_says {n : Nat} {G : Pg} {sts : List Stmt} {g : Addr → Option Obj} (e : obsXG n G g = valX G sts) : SaysX G sts (frX n g) := by
  have c1 : (((facts G).all fun f => f.ok (frX n g)) && ((G.T.all fun d => okG g (asX g n (Nat.shiftLeft 1 mainGlobals) [mainGlobals]).1 (adOf (frX n g) d) d.qual) && ((G.cs.all fun cd => okC (frX n g) G.T cd) && (G.ts.all fun p => okT (frX n g) p) && G.ds.all fun p => okDt (frX n g) p)) && okXs G (frX n g)) = true := congrArg (fun z : AlX => z.1) e
  have c2 : (G.T.map fun d => seeG g (adOf (frX n g) d)) = (List.zip G.T sts).map dueF := congrArg (fun z : AlX => z.2.1) e
  have c3 : (G.xds.map fun x => seeI (frX n g) (xAd (frX n g) x)) = G.xds.map dueI := congrArg (fun z : AlX => z.2.2) e
  have hs : ∀ a, bitX (asX g n (Nat.shiftLeft 1 mainGlobals) [mainGlobals]).1 a = true → a ∈ cStatics :: (asX g n (Nat.shiftLeft 1 mainGlobals) [mainGlobals]).2 := fun a ha => by
    refine List.mem_cons_of_mem _ ?_
    obtain ⟨h1, h2⟩ := asX_ok g n (Nat.shiftLeft 1 mainGlobals) [mainGlobals]
    rcases h2 a ha with h3 | h3
    · refine h1 a ?_
      have h4 : bitX (Nat.lor 0 (Nat.shiftLeft 1 mainGlobals)) a = true := by
        rw [show Nat.lor 0 (Nat.shiftLeft 1 mainGlobals) = Nat.shiftLeft 1 mainGlobals from Nat.zero_or _]
        exact h3
      rcases bitX_or 0 mainGlobals a h4 with h5 | h5
      · rw [bitX_test, Nat.zero_testBit] at h5; cases h5
      · rw [h5]; exact List.mem_cons_self
    · exact h3
  rw [Bool.and_eq_true, Bool.and_eq_true, Bool.and_eq_true] at c1
  obtain ⟨⟨a1, a2, a3⟩, a4⟩ := c1
  have q : ∀ d ∈ G.T, okF (frX n g) (adOf (frX n g) d) d.qual = true ∧ seeF (frX n g) (adOf (frX n g) d) = seeG g (adOf (frX n g) d) := fun d hd => okG_ok hs (List.all_eq_true.mp a2 d hd)
  have p1 : (G.T.all fun d => okF (frX n g) (adOf (frX n g) d) d.qual) = true := List.all_eq_true.mpr fun d hd => (q d hd).1
  have p2 : (G.T.map fun d => seeF (frX n g) (adOf (frX n g) d)) = (List.zip G.T sts).map dueF := by
    rw [← c2]
    exact List.map_congr_left fun d hd => (q d hd).2
  show (_, _, _) = (_, _, _)
  rw [a1, p1, a3, a4, p2, c3]
  rfl
def hookX (n : Nat) (G : Pg) (sts : List Stmt) : PySem.W.Hook where
  α := AlX
  obs := fun s => obsXG n G s.heap.get?
  val := fun _ => valX G sts
  says := fun _ h => ∃ K : Fg, K.In h ∧ SaysX G sts K
  of := fun _ _ e => ⟨_, He.frG_in, obsXG_says e⟩
  keeps := fun _ _ _ ⟨K, hK, c⟩ k => ⟨K, PySem.W.Frag.In.keeps hK k, c⟩
/-- all defs bind -/
def AllBd : List (Df × Stmt) → Prop
  | [] => True
  | p :: r => BindP p.1.name p.1.qual p.2 p.1.ps ∧ AllBd r
theorem AllBd.mem : ∀ {l : List (Df × Stmt)}, AllBd l → ∀ p ∈ l, BindP p.1.name p.1.qual p.2 p.1.ps
  | [], _, _, h => nomatch h
  | q :: r, a, p, h => by
    rcases List.mem_cons.mp h with h | h
    · rw [h]; exact a.1
    · exact a.2.mem p h
theorem bd_of {T : List Df} {sts : List Stmt} (a : AllBd (List.zip T sts)) : ∀ (i : Nat) (d : Df) (st : Stmt), T[i]? = some d → sts[i]? = some st → BindP d.name d.qual st d.ps := fun i d st h1 h2 =>
  a.mem (d, st) (List.mem_of_getElem? (List.getElem?_zip_eq_some.mpr ⟨h1, h2⟩))
theorem obsXG_eq {n : Nat} {G : Pg} {sts : List Stmt} {g : Addr → Option Obj} {s : Shared} (h : ∀ a, g a = s.heap.get? a) : obsXG n G g = (hookX n G sts).obs s := by
  rw [show g = s.heap.get? from funext h]
  rfl
section
variable {G : Pg} {sts : List Stmt} {K : Fg}
theorem SaysX.parts (c : SaysX G sts K) : (∀ f ∈ facts G, f.ok K = true) ∧ (∀ d ∈ G.T, okF K (adOf K d) d.qual = true) ∧ (∀ cd ∈ G.cs, okC K G.T cd = true) ∧ (G.T.map fun d => seeF K (adOf K d)) = (List.zip G.T sts).map dueF ∧ (∀ p ∈ G.ts, okT K p = true) ∧ (∀ p ∈ G.ds, okDt K p = true) ∧ okXs G K = true ∧ (G.xds.map fun x => seeI K (xAd K x)) = G.xds.map dueI := by
  have c1 : (((facts G).all fun f => f.ok K) && ((G.T.all fun d => okF K (adOf K d) d.qual) && ((G.cs.all fun cd => okC K G.T cd) && (G.ts.all fun p => okT K p) && G.ds.all fun p => okDt K p)) && okXs G K) = true := congrArg (fun z : AlX => z.1) c
  have c2 := congrArg (fun z : AlX => z.2.1) c
  have c3 := congrArg (fun z : AlX => z.2.2) c
  rw [Bool.and_eq_true] at c1
  obtain ⟨c1, c4⟩ := c1
  simp only [Bool.and_eq_true, List.all_eq_true] at c1
  exact ⟨c1.1, c1.2.1, c1.2.2.1.1, c2, c1.2.2.1.2, c1.2.2.2, c4, c3⟩
theorem opt_inj {α : Type} {a b : α} (h : some a = some b) : a = b := by injection h
theorem vref_inj {a b : Addr} (h : (some (Value.ref a) : Option Value) = some (Value.ref b)) : a = b := by
  injection h with h
  injection h
theorem hglo_of {h : Heap} {mg : Str → Option Value} (X : K.In h) (Gn : h.Ns mainGlobals mg) (c : SaysX G sts K) {i : Nat} {d : Df} (hd : G.T[i]? = some d) (hc : d.cls = none) : mg d.name = some (.ref (adAt G.T K i)) := by
  have q := c.parts.1 (.glo d.name) (List.mem_append_left _ (List.mem_map.mpr ⟨d, List.mem_filter.mpr ⟨List.mem_of_getElem? hd, decide_eq_true hc⟩, rfl⟩))
  rw [adAt_of hd]
  unfold adOf
  rw [hc]
  exact He.glo_ok X Gn q
theorem hfree_of {h : Heap} {mg : Str → Option Value} (X : K.In h) (Gn : h.Ns mainGlobals mg) (c : SaysX G sts K) : ∀ x ∈ bltNames, mg x = none := fun x hx =>
  He.free_ok X Gn (c.parts.1 (.free x) (List.mem_append_right _ (List.mem_append_left _ (List.mem_map.mpr ⟨x, hx, rfl⟩))))
theorem hint_of {h : Heap} {mg : Str → Option Value} (X : K.In h) (Gn : h.Ns mainGlobals mg) (c : SaysX G sts K) : ∀ p ∈ G.ks, ∃ t, mg p.1 = some (.int p.2 t) := fun p hp =>
  He.int_ok X Gn (c.parts.1 (.int p.1 p.2) (List.mem_append_right _ (List.mem_append_right _ (List.mem_append_left _ (List.mem_map.mpr ⟨p, hp, rfl⟩)))))
theorem hstr_of {h : Heap} {mg : Str → Option Value} (X : K.In h) (Gn : h.Ns mainGlobals mg) (c : SaysX G sts K) : ∀ p ∈ G.ss, ∃ t, mg p.1 = some (.str p.2 t) := fun p hp =>
  He.str_ok X Gn (c.parts.1 (.str p.1 p.2) (List.mem_append_right _ (List.mem_append_right _ (List.mem_append_right _ (List.mem_map.mpr ⟨p, hp, rfl⟩)))))
theorem htup_of {h : Heap} {mg : Str → Option Value} {wd : World} (X : K.In h) (Gn : h.Ns mainGlobals mg) (c : SaysX G sts K) : ∀ p ∈ G.ts, ∃ a, mg p.1 = some (.ref a) ∧ ∀ z, KTp (K, wd, z) a (p.2.map V.int) := fun p hp => okT_of X Gn (c.parts.2.2.2.2.1 p hp)
theorem hdat_of {h : Heap} {mg : Str → Option Value} {wd : World} (X : K.In h) (Gn : h.Ns mainGlobals mg) (c : SaysX G sts K) : ∀ p ∈ G.ds, ∃ z v, mg p.1 = some z ∧ RelV v z ∧ ∀ zz H, Rel (K, wd, zz) H v p.2 := fun p hp => okDt_of X Gn (c.parts.2.2.2.2.2.1 p hp)
theorem hdef_of (ck : ckT G sts = true) (c : SaysX G sts K) : ∃ fd : Nat → FuncData, ∀ (i : Nat) (d : Df), G.T[i]? = some d → ∃ st, sts[i]? = some st ∧ FunD K d.name d.qual (defArgs st) (defBody st) (defScope st) [] [] (adAt G.T K i) (fd i) ∧ ckF G d st = true := by
  have Fi : ∀ i : Nat, ∃ fd : FuncData, ∀ d : Df, G.T[i]? = some d → ∃ st, sts[i]? = some st ∧ FunD K d.name d.qual (defArgs st) (defBody st) (defScope st) [] [] (adAt G.T K i) fd ∧ ckF G d st = true := fun i => by
    rcases hd : G.T[i]? with _ | d
    · exact ⟨⟨"", "", ⟨[], [], none, [], [], none, []⟩, .stmts [], ⟨.function, [], false, false, []⟩, 0, [], .none, .none, .none, .none, none, .none, .none, 0⟩, fun d h => by cases h⟩
    · obtain ⟨st, hs, e1, e2⟩ := ckT_at ck hd
      have hz : (List.zip G.T sts)[i]? = some (d, st) := by
        rw [List.getElem?_zip_eq_some]
        exact ⟨hd, hs⟩
      have c4 := c.parts.2.2.2.1
      have e3 : (G.T.map fun d => seeF K (adOf K d))[i]? = ((List.zip G.T sts).map dueF)[i]? := by rw [c4]
      rw [List.getElem?_map, List.getElem?_map, hd, hz] at e3
      obtain ⟨fd, F⟩ := funD_of (p := (d, st)) (opt_inj e3) (c.parts.2.1 d (List.mem_of_getElem? hd))
      refine ⟨fd, fun d' h1 => ?_⟩
      have e := opt_inj h1
      subst e
      exact ⟨st, hs, by rw [adAt_of hd]; exact F, e2⟩
  exact ⟨fun i => Classical.choose (Fi i), fun i => Classical.choose_spec (Fi i)⟩
end
theorem rl_ints {K : Kw} {H : Hp} : ∀ l : List Int, RelL K H (l.map V.int) (l.map U.int)
  | [] => RelL.nil
  | i :: l => RelL.cons (Rel.int i) (rl_ints l)
theorem rl_arg {K : Kw} {H : Hp} {a : Addr} {xs : List V} (hO : Only H) (hS : SqL K H a xs) : Rl K H a xs := by
  rcases hS with hS | hS
  · rcases hS with hS | ⟨o, hS⟩
    · rcases hO a with z | ⟨o, xs, z⟩
      · rw [hS] at z; cases z
      · rw [hS] at z; cases z
    · exact .inl ⟨o, hS⟩
  · exact .inr hS
theorem map_at {α β : Type} {f g : α → β} : ∀ {l : List α}, l.map f = l.map g → ∀ x ∈ l, f x = g x
  | [], _, _, h => nomatch h
  | a :: l, e, x, h => by
    rw [List.map_cons, List.map_cons] at e
    rcases List.mem_cons.mp h with h | h
    · rw [h]; exact (List.cons.inj e).1
    · exact map_at (List.cons.inj e).2 x h
/-- what the errors ask of the text and of the program -/
structure XsOk (P : Program) (G : Pg) : Prop where
  ck : ∀ x ∈ G.xds, ckXd x = true
  bd : AllBx G.xds
  file : G.xds ≠ [] → ((P.main.file : Str) == G.file) = true
  top : G.xds ≠ [] → (P.main.scope.names.lookup ("super" : Str)).isSome = false
theorem XsOk.none {P : Program} {G : Pg} (h : G.xds = []) : XsOk P G := ⟨(fun x hx => by rw [h] at hx; cases hx), (by rw [h]; exact True.intro), fun z => absurd h z, fun z => absurd h z⟩
theorem xf_ok {P : Program} {K : Fg} {h : Heap} {mg : Str → Option Value} {G : Pg} {sts : List Stmt} (xo : XsOk P G) (X : K.In h) (Gn : h.Ns mainGlobals mg) (c : SaysX G sts K) (d : Df) (st : Stmt) : Xf K P mg (G.ck d st) := by
  obtain ⟨_, _, _, _, _, _, c1, c2⟩ := c.parts
  unfold okXs at c1
  simp only [Bool.and_eq_true, List.all_eq_true] at c1
  obtain ⟨k1, k2, k3, k4⟩ := c1
  have hsup : mg "super" = none := hfree_of X Gn c _ (by decide +kernel)
  have hx : ∀ p ∈ (G.ck d st).xcl, ∃ x ∈ G.xds, p = (x.name, x.fld) := fun p hp => by
    obtain ⟨x, hx, e⟩ := List.mem_map.mp (show p ∈ G.xds.map fun x => (x.name, x.fld) from hp)
    exact ⟨x, hx, e.symm⟩
  have glo : ∀ x ∈ G.xds, mg x.name = some (.ref (cad K x.name)) := fun x hx => by
    have q := (k1 x hx).1
    unfold okXd at q
    rw [Bool.and_eq_true] at q
    exact He.glo_ok X Gn q.1
  refine ⟨fun p hp f hf => ?_, fun p hp hf => ?_, fun p hp => ?_, fun p hp y hy => of_decide_eq_true ((k3 p hp).1 y hy), fun p hp y hy => of_decide_eq_true ((k3 p hp).2 y hy), fun p hp y hy => of_decide_eq_true ((k4 p hp).1 y hy), fun p hp y hy => of_decide_eq_true ((k4 p hp).2 y hy), fun z hz => He.glo_ok X Gn (k2 z hz)⟩
  · obtain ⟨x, hm, rfl⟩ := hx p hp
    have ne : G.xds ≠ [] := fun z => by rw [z] at hm; cases hm
    exact ⟨xone_of hf (xo.file ne) (xo.top ne) hsup (glo x hm) (k1 x hm).1 (map_at c2 x hm) (xo.ck x hm) (xo.bd.mem x hm), xfB_ok (k1 x hm).2⟩
  · obtain ⟨x, hm, rfl⟩ := hx p hp
    have ne : G.xds ≠ [] := fun z => by rw [z] at hm; cases hm
    exact xnil_of hf (xo.file ne) (xo.top ne) hsup (glo x hm) (k1 x hm).1 (map_at c2 x hm) (xo.ck x hm) (xo.bd.mem x hm)
  · obtain ⟨x, hm, rfl⟩ := hx p hp
    have q := (k1 x hm).1
    unfold okXd at q
    simp only [Bool.and_eq_true] at q
    exact excB_of q.2.2.1
theorem law_ok {P : Program} {wd : World} {K : Fg} {h : Heap} {mg : Str → Option Value} {f : Addr} {G : Pg} {sts : List Stmt} {n : Nat} {k : Nat} {dl : Df} (ck : ckT G sts = true) (hb : ∀ (i : Nat) (d : Df) (st : Stmt), G.T[i]? = some d → sts[i]? = some st → BindP d.name d.qual st d.ps)
    (hn : G.T[n]? = some dl) (hps : dl.ps = ([("script" : Str)] : List Str)) (hname : dl.name = "law") (hcl : dl.cls = none) (X : K.In h) (Gn : h.Ns mainGlobals mg) (hfa : mg ("law" : Str) = some (.ref f)) (c : SaysX G sts K)
    (hlaw : ∀ ns : List Int, ns.length ≤ 63 → Cs G.T k n [.rol (ns.map U.int)] (fun _ => none) (fun u _ => u = .bl true)) (xo : XsOk P G := by exact XsOk.none rfl) :
    ∃ (fd : FuncData) (sp : Sp), (∀ (s : Shared) (v : Value), BindsTo s fd ⟨[v], []⟩ [("script", v)]) ∧
      (∀ (H : Hp) (a : Addr) (ns : List Int), ns.length ≤ 63 → Only H → SqL K H a (ns.map V.int) → sp [.ref a] H (fun v _ => v = .bl true) fun _ _ _ => False) ∧
      ∀ base : Heap, K.In base → base.Ns mainGlobals mg → FnOk P wd K mg base CX0 (2 * k) f fd ["script"] sp := by
  obtain ⟨fd, hfd⟩ := hdef_of ck c
  have F := fun base => fn_ok (P := P) (wd := wd) (base := base) (G := G) (fa := adAt G.T K) (fd := fd) (K := K) (mg := mg) (fun i d hd => by
      obtain ⟨st, hs, e1, e2⟩ := hfd i d hd
      exact ⟨st, e1, e2, hb i d st hd hs⟩) (fun i d hd hc => hglo_of X Gn c hd hc) (hfree_of X Gn c) (fun cd hcd => okC_of X Gn (c.parts.2.2.1 cd hcd)) (hint_of X Gn c) (hstr_of X Gn c) (htup_of X Gn c) (hdat_of X Gn c) (xf_ok xo X Gn c) k n dl hn
  have ef : adAt G.T K n = f := by
    have q := hglo_of X Gn c hn hcl
    rw [hname, hfa] at q
    exact (vref_inj q).symm
  obtain ⟨st, hs, e1, e2⟩ := hfd n dl hn
  have hbn := hb n dl st hn hs
  refine ⟨fd n, fun vs H Q _ => spX (K, wd) ((Cs G.T k).x n) vs H Q fun _ _ _ => False, ?_, fun H a ns hl hO hS => ?_, fun base _ _ => ?_⟩
  · intro s v
    have q := e1.bindsA hbn s [v] (by rw [hps]; exact Eq.refl 1)
    rw [hps] at q
    exact q
  · let z : Anc := ⟨H, fun _ => none, fun _ _ e => by cases e⟩
    have S0 : Sim (K, wd, z) H (fun _ => none) := ⟨fun a o e => by exact absurd e (fun z => by cases z), Stp.refl _ _⟩
    have R0 : RelL (K, wd, z) H [V.ref a] [U.rol (ns.map U.int)] := RelL.cons (Rel.rol (rl_arg (K := (K, wd, z)) hO hS) (rl_ints ns)) RelL.nil
    have C0 : Cont (K, wd, z) H (fun _ => none) (fun u _ => u = U.bl true) (fun v _ => v = V.bl true) := fun v H2 u M2 _ _ (r : Rel (K, wd, z) H2 v u) (e : u = .bl true) => by
      subst e
      cases r
      rfl
    exact ⟨z, [U.rol (ns.map U.int)], fun _ => none, fun u _ => u = U.bl true, fun _ _ _ => False, S0, R0, hlaw ns hl, C0, fun _ _ _ _ _ _ q => q.elim⟩
  · have q := F base
    rw [ef, hps] at q
    refine ⟨fun vs H Q E h => q.len vs H Q _ h, fun A outer s H args us vs Q E hr e0 b rv h => codeAny_mono (q.run A outer s H args us vs Q _ hr e0 b rv h) fun r s' y => ?_⟩
    cases r with
    | error e =>
      obtain ⟨_, _, _, _, _, _, _, _, _, _, _, _, y⟩ := y
      exact y.elim
    | ok fl => cases fl <;> exact y
end Pl

set_option maxHeartbeats 400000
/-! tools to work with what is asked: one step each -/
namespace Pl
open PySem L2
theorem Sub.refl (M : Hm) : Sub M M := fun _ _ h => h
theorem Sub.trans {A B C : Hm} (h : Sub A B) (g : Sub B C) : Sub A C := fun a o e => g a o (h a o e)
theorem sub_um {A B : Hm} {p : Addr} {o : MO} (h : Sub A B) (hp : A p = none) : Sub A (um B p o) := fun a o' e => by
  by_cases q : a = p
  · subst q; rw [hp] at e; cases e
  · rw [um_ne q]; exact h a o' e
theorem um_old {M : Hm} {p a : Addr} {o o' : MO} (hp : M p = some o') (ha : M a = none) : um M a o p = some o' := by
  rw [um_ne]
  · exact hp
  · intro e; subst e; rw [hp] at ha; cases ha
theorem um_oth {M : Hm} {p a : Addr} {o : MO} {r : Option MO} (h : p ≠ a) (hp : M p = r) : um M a o p = r := by
  rw [um_ne h]; exact hp
theorem um_none {M : Hm} {p a : Addr} {o : MO} (h : um M a o p = none) : M p = none := by
  by_cases q : p = a
  · subst q; rw [um_same] at h; cases h
  · rw [um_ne q] at h; exact h
theorem um_noneN {M : Hm} {p a : Addr} {o : MO} (h : um M a o p = none) : p ≠ a := fun q => by
  subst q; rw [um_same] at h; cases h
/-- a new thing, seen from before -/
theorem sub_new {A B : Hm} {p : Addr} {o : MO} (h : Sub A B) (hp : B p = none) : Sub A (um B p o) := fun a o' e => um_old (h a o' e) hp
theorem ne_of_old {M : Hm} {p a : Addr} {o : MO} (hp : M p = some o) (ha : M a = none) : p ≠ a := fun e => by
  subst e; rw [hp] at ha; cases ha
theorem ne_of_old' {M : Hm} {p a : Addr} {o : MO} (hp : M p = some o) (ha : M a = none) : a ≠ p := fun e => by
  subst e; rw [hp] at ha; cases ha
section
variable {C : CE} {σ : SU} {M : Hm} {Q : QU} {T : Bool → Hm → Prop} {L : List U → Hm → Prop} {I : List U → (Hm → Prop) → ((Hm → Prop) → Hm → Prop) → Hm → Prop} {a b c d es : E} {i : Nat}
/-! ifs -/
theorem i_ift {A B : Prop} {k : Bool} (h : k = true) (q : A) : if k = true then A else B := by rw [if_pos h]; exact q
theorem i_iff {A B : Prop} {k : Bool} (h : k = false) (q : B) : if k = true then A else B := by rw [if_neg (by rw [h]; decide)]; exact q
theorem i_ifn {A B : Prop} {k : Bool} (q : if k = true then B else A) : if (!k) = true then A else B := by cases k <;> exact q
theorem i_ifd {A B P : Prop} {inst : Decidable P} (h1 : P → A) (h2 : ¬P → B) : if @decide P inst = true then A else B := by
  by_cases h : P
  · exact i_ift (@decide_eq_true P inst h) (h1 h)
  · exact i_iff (@decide_eq_false P inst h) (h2 h)
theorem i_ifdt {A B P : Prop} {inst : Decidable P} (h : P) (q : A) : if @decide P inst = true then A else B := i_ift (@decide_eq_true P inst h) q
theorem i_ifdf {A B P : Prop} {inst : Decidable P} (h : ¬P) (q : B) : if @decide P inst = true then A else B := i_iff (@decide_eq_false P inst h) q
theorem cmul_l {i j : Int} (h : -18446744073709551616 < i) (h2 : i < 18446744073709551616) : CMul i j := .inl ⟨h, h2⟩
theorem cmul_r {i j : Int} (h : -18446744073709551616 < j) (h2 : j < 18446744073709551616) : CMul i j := .inr ⟨h, h2⟩
theorem i_le {n : Nat} {R : Prop} (h : n ≤ LIM) (q : R) : n ≤ LIM ∧ R := ⟨h, q⟩
theorem i_lt {n : Nat} {R : Prop} (h : n < LIM) (q : R) : n < LIM ∧ R := ⟨h, q⟩
/-- what several ways come to -/
structure Hold (R : Prop) : Prop where
  out : R
theorem rest_of {R G : Prop} (f : Hold R → G) (k : R) : G := f ⟨k⟩
/-! of what head a goal is: tried ahead of the rules of that head -/
theorem is_e {C : CE} {a : E} {σ : SU} {M : Hm} {Q : QU} (q : (w C a).e σ M Q) : (w C a).e σ M Q := q
theorem is_t {C : CE} {a : E} {σ : SU} {M : Hm} {T : Bool → Hm → Prop} (q : (w C a).t σ M T) : (w C a).t σ M T := q
theorem is_s {C : CE} {a : S} {k : EndsU} {σ : SU} {M : Hm} (q : wS C a k σ M) : wS C a k σ M := q
theorem is_b {f : Bfn} {xs : List U} {M : Hm} {Q : QU} (q : bltW f xs M Q) : bltW f xs M Q := q
/-! values -/
theorem i_var {u : U} (h : σ[i]? = some (some u)) (q : Q u M) : (w C (.var i)).e σ M Q := ⟨u, h, q⟩
theorem i_int {i : Int} (q : Q (.int i) M) : (w C (.int i)).e σ M Q := q
theorem i_str {i : Str} (q : Q (.str i) M) : (w C (.str i)).e σ M Q := q
theorem i_bl {i : Bool} (q : Q (.bl i) M) : (w C (.bl i)).e σ M Q := q
theorem i_non (q : Q .non M) : (w C .non).e σ M Q := q
theorem i_nil (q : L [] M) : (w C .nil).l σ M L := q
theorem i_cons (q : (w C a).e σ M fun x M1 => (w C b).l σ M1 fun xs M2 => L (x :: xs) M2) : (w C (.cons a b)).l σ M L := q
theorem i_tup (q : (w C es).l σ M fun xs M1 => xs.length ≤ LIM ∧ Q (.tup xs) M1) : (w C (.tup es)).e σ M Q := q
theorem i_dtup (q : (w C es).l σ M fun xs M1 => xs.length ≤ LIM ∧ Q (.dtp xs) M1) : (w C (.dtup es)).e σ M Q := q
theorem i_lst (q : (w C es).l σ M fun xs M1 => xs.length ≤ LIM ∧ ∀ p, M1 p = none → Q (.ref p) (um M1 p (.lst xs))) : (w C (.lst es)).e σ M Q := q
theorem i_dnew {t : Bool} (q : ∀ p, M p = none → Q (.ref p) (um M p (.dct false t []))) : (w C (.dnew t)).e σ M Q := q
theorem i_ddispN (q : ∀ p, M p = none → (w C a).e σ (um M p (.dcn [])) fun k M1 => (w C b).e σ M1 fun u M2 => M2 p = some (.dcn []) ∧ isKeyN k = true ∧ Q (.ref p) (um M2 p (.dcn [(k, u)]))) : (w C (.ddispN a b)).e σ M Q := q
theorem i_dnewN (q : ∀ p, M p = none → Q (.ref p) (um M p (.dcn []))) : (w C .dnewN).e σ M Q := q
theorem i_bin {op : Bop} (q : (w C a).e σ M fun x M1 => (w C b).e σ M1 fun y M2 => binW op x y M2 Q) : (w C (.bin op a b)).e σ M Q := q
theorem i_neg (q : (w C a).e σ M fun x M1 => ∃ i, x = .int i ∧ Q (.int (-i)) M1) : (w C (.neg a)).e σ M Q := q
theorem i_neg2 {j : Int} (q : Q (.int (-j)) M) : ∃ i, U.int j = .int i ∧ Q (.int (-i)) M := ⟨j, rfl, q⟩
theorem i_cmp {op : Cop} (q : (w C a).e σ M fun x M1 => (w C b).e σ M1 fun y M2 => cmpW op x y M2 fun k M3 => Q (.bl k) M3) : (w C (.cmp op a b)).e σ M Q := q
theorem i_chain {o p : Cop} (q : (w C a).e σ M fun x M1 => (w C b).e σ M1 fun y M2 => cmpW o x y M2 fun k M3 => if k = true then (w C c).e σ M3 fun z M4 => cmpW p y z M4 fun k M5 => Q (.bl k) M5 else Q (.bl false) M3) : (w C (.chain o p a b c)).e σ M Q := q
theorem i_isN (q : (w C a).e σ M fun x M1 => Q (.bl (decide (x = .non))) M1) : (w C (.isN a)).e σ M Q := q
theorem i_notN (q : (w C a).e σ M fun x M1 => Q (.bl (!decide (x = .non))) M1) : (w C (.notN a)).e σ M Q := q
theorem i_isB {b : Bool} (q : (w C a).e σ M fun x M1 => ∃ c, x = .bl c ∧ Q (.bl (decide (c = b))) M1) : (w C (.isB false b a)).e σ M Q := q
theorem i_isNB {b : Bool} (q : (w C a).e σ M fun x M1 => ∃ c, x = .bl c ∧ Q (.bl (!decide (c = b))) M1) : (w C (.isB true b a)).e σ M Q := q
theorem i_ands (q : (w C es).va σ M Q) : (w C (.ands es)).e σ M Q := q
theorem i_ors (q : (w C es).vo σ M Q) : (w C (.ors es)).e σ M Q := q
theorem i_not (q : (w C a).e σ M fun x M1 => truW x M1 fun b M2 => Q (.bl (!b)) M2) : (w C (.not a)).e σ M Q := q
theorem i_bW {f : WE} (q : f σ M fun x M1 => ∃ b, x = .bl b ∧ T b M1) : bW f σ M T := q
theorem i_exB {b : Bool} {R : Bool → Prop} (q : R b) : ∃ c, U.bl b = .bl c ∧ R c := ⟨b, rfl, q⟩
theorem i_exI {j : Int} {R : Int → Prop} (q : R j) : ∃ c, U.int j = .int c ∧ R c := ⟨j, rfl, q⟩
theorem i_exII {j k : Int} {R : Int → Int → Prop} (q : R j k) : ∃ a b, U.int j = .int a ∧ U.int k = .int b ∧ R a b := ⟨j, k, rfl, rfl, q⟩
theorem i_ite (q : (w C c).t σ M fun k M1 => if k = true then (w C a).e σ M1 Q else (w C b).e σ M1 Q) : (w C (.ite c a b)).e σ M Q := q
theorem i_ix (q : (w C a).e σ M fun x M1 => (w C b).e σ M1 fun y M2 => ixW x y M2 Q) : (w C (.ix a b)).e σ M Q := q
theorem i_dget (q : (w C a).e σ M fun x M1 => isDW x M1 ∧ (w C b).e σ M1 fun y M2 => (w C c).e σ M2 fun v M3 => dgetW x y v M3 Q) : (w C (.dget a b c)).e σ M Q := q
theorem i_sset (q : (w C a).e σ M fun x M1 => ssetW x M1 Q) : (w C (.sset a)).e σ M Q := q
theorem i_dgetN (q : (w C a).e σ M fun x M1 => (∃ p ks, x = .ref p ∧ M1 p = some (.dcn ks)) ∧ (w C b).e σ M1 fun y M2 => (w C c).e σ M2 fun v M3 => dgetNW x y v M3 Q) : (w C (.dgetN a b c)).e σ M Q := q
theorem i_rcN {R : Prop} {p : Addr} {ks : List (U × U)} (hp : M p = some (.dcn ks)) (q : R) : (∃ p' ks', U.ref p = .ref p' ∧ M p' = some (.dcn ks')) ∧ R := ⟨⟨p, ks, rfl, hp⟩, q⟩
theorem i_dget1 (q : (w C a).e σ M fun x M1 => isDW x M1 ∧ (w C b).e σ M1 fun y M2 => dgetW x y .non M2 Q) : (w C (.dget1 a b)).e σ M Q := q
theorem t_dget (q : (w C a).e σ M fun x M1 => isDW x M1 ∧ (w C b).e σ M1 fun y M2 => (w C c).e σ M2 fun v M3 => dgetW x y v M3 fun u M4 => truW u M4 T) : (w C (.dget a b c)).t σ M T := q
theorem i_isD {R : Prop} {p : Addr} {z t : Bool} {ks : List (U × U)} (hp : M p = some (.dct z t ks)) (q : R) : isDW (.ref p) M ∧ R := ⟨⟨p, z, t, ks, rfl, hp⟩, q⟩
theorem i_slice (q : (w C a).e σ M fun x M1 => partW b (w C b).e σ M1 fun l M2 => partW c (w C c).e σ M2 fun h M3 => sliceW x l h M3 Q) : (w C (.slice a b c)).e σ M Q := q
theorem i_part0 {f : WE} {O : Option Int → Hm → Prop} (q : O none M) : partW .nil f σ M O := q
theorem i_part1 {f : WE} {O : Option Int → Hm → Prop} (h : isNil a = false) (q : f σ M fun x M1 => ∃ i, x = .int i ∧ O (some i) M1) : partW a f σ M O := by
  unfold partW
  rw [if_neg (by rw [h]; decide)]
  exact q
theorem i_callX {f : Nat} (q : (w C es).l σ M fun xs M1 => C.x f xs M1 Q fun cn dx M2 => C.xc cn dx σ M2) : (w C (.callX f es)).e σ M Q := q
theorem t_callX {f : Nat} (q : (w C es).l σ M fun xs M1 => C.x f xs M1 (fun z M2 => truW z M2 T) fun cn dx M2 => C.xc cn dx σ M2) : (w C (.callX f es)).t σ M T := q
theorem i_xfd {f : Str} {cs : List Str} {p : Addr} {cn : Str} {dx : Addr} {fs : List (Str × U)} {v : U} (h1 : C.cur = some (p, cn, some dx)) (h2 : cn ∈ cs) (h3 : σ[i]? = some (some (.ref p))) (h4 : M dx = some (.exd fs)) (h5 : fs.lookup f = some v) (q : Q v M) : (w C (.xfd f i cs)).e σ M Q := ⟨p, cn, dx, fs, v, h1, h2, h3, h4, h5, q⟩
theorem i_isx {yes no : List Str} {p : Addr} {cn : Str} {dx : Option Addr} (h1 : C.cur = some (p, cn, dx)) (h3 : σ[i]? = some (some (.ref p))) (h2 : cn ∈ yes ∨ cn ∈ no) (h4 : ∀ a, dx = some a → ∃ fs, M a = some (.exd fs)) (q : Q (.bl (decide (cn ∈ yes))) M) : (w C (.isx i yes no)).e σ M Q := ⟨p, cn, dx, h1, h3, h2, h4, q⟩
theorem t_isx {yes no : List Str} {p : Addr} {cn : Str} {dx : Option Addr} (h1 : C.cur = some (p, cn, dx)) (h3 : σ[i]? = some (some (.ref p))) (h2 : cn ∈ yes ∨ cn ∈ no) (h4 : ∀ a, dx = some a → ∃ fs, M a = some (.exd fs)) (q : T (decide (cn ∈ yes)) M) : (w C (.isx i yes no)).t σ M T := ⟨p, cn, dx, h1, h3, h2, h4, q⟩
theorem ex_one {dx : Addr} {fs : List (Str × U)} (h : M dx = some (.exd fs)) : ∀ a, some dx = some a → ∃ fs, M a = some (.exd fs) := fun a e => by cases e; exact ⟨_, h⟩
theorem ex_no {P : Addr → Prop} : ∀ a, (none : Option Addr) = some a → P a := fun a e => by cases e
theorem i_call {f : Nat} (q : (w C es).l σ M fun xs M1 => C f xs M1 Q) : (w C (.call f es)).e σ M Q := q
theorem i_blt {f : Bfn} (q : (w C es).l σ M fun xs M1 => bltW f xs M1 Q) : (w C (.blt f es)).e σ M Q := q
theorem i_mth {m : Mfn} (q : (w C a).e σ M fun x M1 => rcvW m x M1 ∧ (w C es).l σ M1 fun xs M2 => mthW m x xs M2 Q) : (w C (.mth m a es)).e σ M Q := q
theorem i_isinst {t : String} (q : (w C a).e σ M fun x M1 => isTyW x t M1 fun k M2 => Q (.bl k) M2) : (w C (.isinst a t)).e σ M Q := q
theorem i_compN {own : List (Str × Nat)} {tg : Tg} (q : (w C a).i σ M fun items g ex M1 => compL (fun x k M => tgW tg x (wipU σ tg.slots) fun σ2 => (w C c).e σ2 M fun y M3 => k (some y) M3) g (fun acc M => ex (fun M => ∀ p, M p = none → Q (.ref p) (um M p (.lst acc))) M) items [] M1) : (w C (.comp own tg a .nil c)).e σ M Q := by
  show compW _ _ _ _ _ _ _
  unfold compW
  simp only [isNil, if_true]
  exact q
theorem i_compC {own : List (Str × Nat)} {tg : Tg} (h : isNil b = false) (q : (w C a).i σ M fun items g ex M1 => compL (fun x k M => tgW tg x (wipU σ tg.slots) fun σ2 => (w C b).t σ2 M fun e M2 => if e = true then (w C c).e σ2 M2 fun y M3 => k (some y) M3 else k none M2) g (fun acc M => ex (fun M => ∀ p, M p = none → Q (.ref p) (um M p (.lst acc))) M) items [] M1) : (w C (.comp own tg a b c)).e σ M Q := by
  show compW _ _ _ _ _ _ _
  unfold compW
  simp only [h, Bool.false_eq_true, if_false]
  exact q
theorem i_comp2N {own : List (Str × Nat)} {tg tg1 : Tg} (q : (w C a).i σ M fun items g ex M1 => ∀ p, M1 p = none → g (um M1 p (.lst [])) ∧ dcompL (fun x k M => tgW tg x (wipU σ (own.map (·.2))) fun σ2 => (w C b).i σ2 M fun items1 g1 ex1 M2 => dcompL (fun y k1 M => tgW tg1 y (wipU σ2 tg1.slots) fun σ3 => (w C c).e σ3 M fun v M'' => appd p v M'' k1) g1 (fun M' => ex1 k M') items1 M2) g (fun M => ex (fun M => Q (.ref p) M) M) items (um M1 p (.lst []))) : (w C (.comp2 own tg a tg1 b .nil c)).e σ M Q := by
  show comp2W _ _ _ _ _ _ _ _ _ _
  unfold comp2W
  simp only [isNil, if_true]
  exact q
theorem ap_lst {p : Addr} {us : List U} {v : U} {k : Hm → Prop} (hp : M p = some (.lst us)) (hl : us.length < LIM) (q : k (um M p (.lst (us ++ [v])))) : appd p v M k := ⟨us, hp, hl, q⟩
theorem i_dcomp0 {k v : E} {own : List (Str × Nat)} {tg : Tg} (q : (w C a).i σ M fun items g ex M1 => ∀ p, M1 p = none → g (um M1 p (.dcn [])) ∧ dcompL (fun x kk M => tgW tg x (wipU σ tg.slots) fun σ2 => (w C k).e σ2 M fun y M3 => (w C v).e σ2 M3 fun z M4 => dsetN p y z M4 kk) g (fun M => ex (fun M => Q (.ref p) M) M) items (um M1 p (.dcn []))) : (w C (.dcompN own tg a .nil k v)).e σ M Q := by
  show dcompW _ _ _ _ _ _ _ _
  unfold dcompW
  simp only [isNil, if_true]
  exact q
/-! tests -/
theorem t_var {u : U} (h : σ[i]? = some (some u)) (q : truW u M T) : (w C (.var i)).t σ M T := ⟨u, h, q⟩
theorem t_bl {i : Bool} (q : T i M) : (w C (.bl i)).t σ M T := q
theorem t_bin {op : Bop} (q : (w C a).e σ M fun x M1 => (w C b).e σ M1 fun y M2 => binW op x y M2 fun z M3 => truW z M3 T) : (w C (.bin op a b)).t σ M T := q
theorem t_ix (q : (w C a).e σ M fun x M1 => (w C b).e σ M1 fun y M2 => ixW x y M2 fun z M3 => truW z M3 T) : (w C (.ix a b)).t σ M T := q
theorem t_call {f : Nat} (q : (w C es).l σ M fun xs M1 => C f xs M1 fun z M2 => truW z M2 T) : (w C (.call f es)).t σ M T := q
theorem t_blt {f : Bfn} (q : (w C es).l σ M fun xs M1 => bltW f xs M1 fun z M2 => truW z M2 T) : (w C (.blt f es)).t σ M T := q
theorem t_cmp {op : Cop} (q : (w C a).e σ M fun x M1 => (w C b).e σ M1 fun y M2 => cmpW op x y M2 T) : (w C (.cmp op a b)).t σ M T := q
theorem t_chain {o p : Cop} (q : (w C a).e σ M fun x M1 => (w C b).e σ M1 fun y M2 => cmpW o x y M2 fun k M3 => if k = true then (w C c).e σ M3 fun z M4 => cmpW p y z M4 T else T false M3) : (w C (.chain o p a b c)).t σ M T := q
theorem t_isN (q : (w C a).e σ M fun x M1 => T (decide (x = .non)) M1) : (w C (.isN a)).t σ M T := q
theorem t_notN (q : (w C a).e σ M fun x M1 => T (!decide (x = .non)) M1) : (w C (.notN a)).t σ M T := q
theorem t_isB {b : Bool} (q : (w C a).e σ M fun x M1 => ∃ c, x = .bl c ∧ T (decide (c = b)) M1) : (w C (.isB false b a)).t σ M T := q
theorem t_isNB {b : Bool} (q : (w C a).e σ M fun x M1 => ∃ c, x = .bl c ∧ T (!decide (c = b)) M1) : (w C (.isB true b a)).t σ M T := q
theorem t_ands (q : (w C es).ta σ M T) : (w C (.ands es)).t σ M T := q
theorem t_ors (q : (w C es).to σ M T) : (w C (.ors es)).t σ M T := q
theorem t_not (q : (w C a).t σ M fun b M1 => T (!b) M1) : (w C (.not a)).t σ M T := q
theorem t_isinst {t : String} (q : (w C a).e σ M fun x M1 => isTyW x t M1 T) : (w C (.isinst a t)).t σ M T := q
theorem ta_1 (q : (w C a).t σ M T) : (w C (.cons a .nil)).ta σ M T := q
theorem ta_2 (q : (w C a).t σ M fun c M1 => if c = true then (w C (.cons b d)).ta σ M1 T else T false M1) : (w C (.cons a (.cons b d))).ta σ M T := q
theorem to_1 (q : (w C a).t σ M T) : (w C (.cons a .nil)).to σ M T := q
theorem to_2 (q : (w C a).t σ M fun c M1 => if c = true then T true M1 else (w C (.cons b d)).to σ M1 T) : (w C (.cons a (.cons b d))).to σ M T := q
theorem va_1 (q : (w C a).e σ M Q) : (w C (.cons a .nil)).va σ M Q := q
theorem va_2 (q : (w C a).e σ M fun x M1 => ∃ k, x = .bl k ∧ if k = true then (w C (.cons b d)).va σ M1 Q else Q (.bl false) M1) : (w C (.cons a (.cons b d))).va σ M Q := q
theorem vo_1 (q : (w C a).e σ M Q) : (w C (.cons a .nil)).vo σ M Q := q
theorem vo_2 (q : (w C a).e σ M fun x M1 => ∃ k, x = .bl k ∧ if k = true then Q (.bl true) M1 else (w C (.cons b d)).vo σ M1 Q) : (w C (.cons a (.cons b d))).vo σ M Q := q
/-! operations -/
theorem o_add {i j : Int} (q : Q (.int (i + j)) M) : binW .add (.int i) (.int j) M Q := q
theorem o_sub {i j : Int} (q : Q (.int (i - j)) M) : binW .sub (.int i) (.int j) M Q := q
theorem o_mul {i j : Int} (h : CMul i j) (q : Q (.int (i * j)) M) : binW .mul (.int i) (.int j) M Q := ⟨h, q⟩
theorem o_fdiv {i j : Int} (h : CDiv i j) (q : Q (.int (i / j)) M) : binW .fdiv (.int i) (.int j) M Q := ⟨h, q⟩
theorem o_mod {i j : Int} (h : 0 < j) (q : Q (.int (i % j)) M) : binW .mod (.int i) (.int j) M Q := ⟨h, q⟩
theorem o_pow {i j : Int} (h : CPow i j) (q : Q (.int (i ^ j.toNat)) M) : binW .pow (.int i) (.int j) M Q := ⟨h, q⟩
theorem o_shl {i j : Int} (h : CPow i j) (q : Q (.int (i * 2 ^ j.toNat)) M) : binW .shl (.int i) (.int j) M Q := ⟨h, q⟩
theorem o_addT {x y : List U} (h : x.length + y.length ≤ LIM) (q : Q (.tup (x ++ y)) M) : binW .add (.tup x) (.tup y) M Q := ⟨h, q⟩
theorem o_addL {p r : Addr} {us ws : List U} (hp : M p = some (.lst us)) (hr : M r = some (.lst ws)) (h : us.length + ws.length ≤ LIM) (q : ∀ a, M a = none → Q (.ref a) (um M a (.lst (us ++ ws)))) : binW .add (.ref p) (.ref r) M Q := ⟨us, ws, hp, hr, h, q⟩
theorem c_eqb {x y : U} (h : okM x y = true) (q : T (decide (x = y)) M) : cmpW .eqb x y M T := ⟨h, q⟩
theorem c_neb {x y : U} (h : okM x y = true) (q : T (!decide (x = y)) M) : cmpW .neb x y M T := ⟨h, q⟩
theorem c_eq {x y : U} (q : eqW x y M T) : cmpW .eq x y M T := q
theorem c_ne {x y : U} (q : eqW x y M fun b M => T (!b) M) : cmpW .ne x y M T := q
theorem c_lt {i j : Int} (q : T (decide (i < j)) M) : cmpW .lt (.int i) (.int j) M T := q
theorem c_le {i j : Int} (q : T (decide (i ≤ j)) M) : cmpW .le (.int i) (.int j) M T := q
theorem c_gt {i j : Int} (q : T (decide (j < i)) M) : cmpW .gt (.int i) (.int j) M T := q
theorem c_ge {i j : Int} (q : T (decide (j ≤ i)) M) : cmpW .ge (.int i) (.int j) M T := q
theorem c_in {x y : U} (q : inW false x y M T) : cmpW .isin x y M T := q
theorem c_nin {x y : U} (q : inW true x y M T) : cmpW .notin x y M T := q
theorem eq_bl {a b : Bool} (q : T (decide (a = b)) M) : eqW (.bl a) (.bl b) M T := by
  have e : (a == b) = decide (a = b) := by cases a <;> cases b <;> rfl
  show T (a == b) M
  rw [e]; exact q
theorem eq_int {a b : Int} (q : T (decide (a = b)) M) : eqW (.int a) (.int b) M T := q
theorem eq_str {a b : Str} (q : T (decide (a = b)) M) : eqW (.str a) (.str b) M T := q
theorem eq_tup {a b : List U} (ha : okU (.tup a) = true) (hb : okU (.tup b) = true) (q : T (decide (U.tup a = U.tup b)) M) : eqW (.tup a) (.tup b) M T := ⟨ha, hb, q⟩
theorem eq_lst {p r : Addr} {us ws : List U} (hp : M p = some (.lst us)) (hr : M r = some (.lst ws)) (h1 : okL us = true) (h2 : okL ws = true) (q : T (decide (us = ws)) M) : eqW (.ref p) (.ref r) M T := ⟨us, ws, hp, hr, h1, h2, q⟩
theorem nin_lst {x : U} {p : Addr} {us : List U} (hp : M p = some (.lst us)) (h1 : okU x = true) (h2 : okL us = true) (q : T (!decide (x ∈ us)) M) : inW true x (.ref p) M T := .inl ⟨us, hp, h1, h2, q⟩
theorem in_tupD {x : U} {us : List U} (h1 : okU x = true) (h2 : okL us = true) (q : T (decide (x ∈ us)) M) : inW false x (.tup us) M T := ⟨h1, h2, q⟩
theorem in_str {c : Nat} {z : Str} (q : T (decide (c ∈ z.cps.toList)) M) : inW false (.str ⟨#[c]⟩) (.str z) M T := ⟨c, rfl, q⟩
theorem tr_bl {b : Bool} (q : T b M) : truW (.bl b) M T := q
theorem tr_int {i : Int} (q : T (!decide (i = 0)) M) : truW (.int i) M T := by
  have e : (i != 0) = !decide (i = 0) := rfl
  show T (i != 0) M
  rw [e]; exact q
theorem emp_dec {α : Type} (l : List α) [Decidable (l = [])] : l.isEmpty = decide (l = []) := by cases l <;> simp
theorem tr_tup {l : List U} (q : T (!decide (l = [])) M) : truW (.tup l) M T := by
  show T (!l.isEmpty) M
  rw [emp_dec]; exact q
theorem tr_non (q : T false M) : truW .non M T := q
theorem tr_lst {p : Addr} {us : List U} (hp : M p = some (.lst us)) (q : T (!decide (us = [])) M) : truW (.ref p) M T := .inl ⟨us, hp, by rw [emp_dec]; exact q⟩
theorem tr_dct {p : Addr} {ks : List (U × U)} (hp : M p = some (.dct false false ks)) (q : T (!decide (ks = [])) M) : truW (.ref p) M T := .inr ⟨ks, hp, by rw [emp_dec]; exact q⟩
theorem x_tup {l : List U} {j : Int} {v : U} (h : atI l j = some v) (q : Q v M) : ixW (.tup l) (.int j) M Q := ⟨j, v, rfl, h, q⟩
theorem x_lst {p : Addr} {us : List U} {j : Int} {v : U} (hp : M p = some (.lst us)) (h : atI us j = some v) (q : Q v M) : ixW (.ref p) (.int j) M Q := .inl ⟨us, j, v, hp, rfl, h, q⟩
theorem g_lst {p : Addr} {us : List U} {j : Int} {v : U} (hp : M p = some (.lst us)) (h : atI us j = some v) (q : Q v M) : getW (.ref p) (.int j) M Q := .inl ⟨us, j, v, hp, rfl, h, q⟩
theorem sl_tup {l : List U} {x y : Option Int} (q : Q (.tup (cutU l x y)) M) : sliceW (.tup l) x y M Q := q
theorem sl_lst {p : Addr} {us : List U} {x y : Option Int} (hp : M p = some (.lst us)) (q : ∀ a, M a = none → Q (.ref a) (um M a (.lst (cutU us x y)))) : sliceW (.ref p) x y M Q := ⟨us, hp, q⟩
theorem st_lst {p : Addr} {us : List U} {j : Int} {k : Nat} {v : U} {R : Hm → Prop} (hp : M p = some (.lst us)) (h : ixN us.length j = some k) (q : R (um M p (.lst (us.set k v)))) : setW (.ref p) (.int j) v M R := .inl ⟨us, j, k, hp, rfl, h, q⟩
theorem f_lenT {l : List U} (q : Q (.int l.length) M) : bltW .len [.tup l] M Q := q
theorem f_lenL {p : Addr} {us : List U} (hp : M p = some (.lst us)) (q : Q (.int us.length) M) : bltW .len [.ref p] M Q := .inl ⟨us, hp, q⟩
theorem f_lenD {p : Addr} {ks : List (U × U)} (hp : M p = some (.dct false false ks)) (q : Q (.int ks.length) M) : bltW .len [.ref p] M Q := .inr ⟨ks, hp, q⟩
theorem f_listT {l : List U} (q : ∀ a, M a = none → Q (.ref a) (um M a (.lst l))) : bltW .list [.tup l] M Q := q
theorem f_listL {p : Addr} {us : List U} (hp : M p = some (.lst us)) (q : ∀ a, M a = none → Q (.ref a) (um M a (.lst us))) : bltW .list [.ref p] M Q := .inl ⟨us, hp, q⟩
theorem f_listD {p : Addr} {ks : List (U × U)} (hp : M p = some (.dct false false ks)) (q : ∀ a, M a = none → Q (.ref a) (um M a (.lst (ks.map (·.1))))) : bltW .list [.ref p] M Q := .inr (.inl ⟨ks, hp, q⟩)
theorem f_listN {p : Addr} {ks : List (U × U)} (hp : M p = some (.dcn ks)) (q : ∀ a, M a = none → Q (.ref a) (um M a (.lst (ks.map (·.1))))) : bltW .list [.ref p] M Q := .inr (.inr ⟨ks, hp, q⟩)
theorem f_tupT {l : List U} (q : Q (.tup l) M) : bltW .tuple [.tup l] M Q := q
theorem f_tupL {p : Addr} {us : List U} (hp : M p = some (.lst us)) (q : Q (.tup us) M) : bltW .tuple [.ref p] M Q := ⟨us, hp, q⟩
theorem f_int {i : Int} (q : Q (.int i) M) : bltW .int [.int i] M Q := q
theorem f_intB {b : Bool} (q : Q (.int (if b then 1 else 0)) M) : bltW .int [.bl b] M Q := q
theorem f_abs {i : Int} (q : Q (.int (if i < 0 then -i else i)) M) : bltW .abs [.int i] M Q := q
theorem f_max {i j : Int} (q : Q (.int (if j > i then j else i)) M) : bltW .max [.int i, .int j] M Q := q
theorem f_min {i j : Int} (q : Q (.int (if j < i then j else i)) M) : bltW .min [.int i, .int j] M Q := q
theorem m_app {p : Addr} {us : List U} {x : U} (hp : M p = some (.lst us)) (hl : us.length < LIM) (q : Q .non (um M p (.lst (us ++ [x])))) : mthW .append (.ref p) [x] M Q := ⟨us, hp, hl, q⟩
theorem m_ext {p r : Addr} {us ws : List U} (hp : M p = some (.lst us)) (hr : M r = some (.lst ws)) (hl : us.length + ws.length ≤ LIM) (q : Q .non (um M p (.lst (us ++ ws)))) : mthW .extend (.ref p) [.ref r] M Q := ⟨us, ws, hp, hr, hl, q⟩
theorem i_rcvR {R : Prop} {p : Addr} {ks : List (U × U)} (hp : M p = some (.dct false true ks)) (q : R) : rcvW .pop2 (.ref p) M ∧ R := ⟨⟨p, ks, rfl, hp⟩, q⟩
theorem m_pop {p : Addr} {us : List U} {x : U} (hp : M p = some (.lst us)) (hl : us[us.length - 1]? = some x) (q : Q x (um M p (.lst us.dropLast))) : mthW .pop (.ref p) [] M Q := ⟨us, x, hp, hl, q⟩
theorem m_popAt {p : Addr} {us : List U} {i : Int} {k : Nat} {x : U} (hp : M p = some (.lst us)) (hl : us.length ≤ LIM) (hi : ixN us.length i = some k) (hk : us[k]? = some x) (q : Q x (um M p (.lst (us.eraseIdx k)))) : mthW .popAt (.ref p) [.int i] M Q := ⟨us, k, x, hp, hl, hi, hk, q⟩
theorem i_rcvX {R : Prop} {p : Addr} {us : List U} (hp : M p = some (.lst us)) (q : R) : rcvW .index (.ref p) M ∧ R := ⟨⟨p, us, rfl, hp⟩, q⟩
theorem r_app {p : Addr} {us : List U} (hp : M p = some (.lst us)) : rcvW .append (.ref p) M := ⟨p, us, rfl, hp⟩
theorem r_ext {p : Addr} {us : List U} (hp : M p = some (.lst us)) : rcvW .extend (.ref p) M := ⟨p, us, rfl, hp⟩
theorem r_pop {p : Addr} {us : List U} (hp : M p = some (.lst us)) : rcvW .pop (.ref p) M := ⟨p, us, rfl, hp⟩
theorem r_popAt {p : Addr} {us : List U} (hp : M p = some (.lst us)) : rcvW .popAt (.ref p) M := ⟨p, us, rfl, hp⟩
theorem i_rcvA {R : Prop} {p : Addr} {us : List U} (hp : M p = some (.lst us)) (q : R) : rcvW .append (.ref p) M ∧ R := ⟨r_app hp, q⟩
theorem i_rcvE {R : Prop} {p : Addr} {us : List U} (hp : M p = some (.lst us)) (q : R) : rcvW .extend (.ref p) M ∧ R := ⟨r_ext hp, q⟩
theorem i_rcvP {R : Prop} {p : Addr} {us : List U} (hp : M p = some (.lst us)) (q : R) : rcvW .pop (.ref p) M ∧ R := ⟨r_pop hp, q⟩
theorem i_rcvQ {R : Prop} {p : Addr} {us : List U} (hp : M p = some (.lst us)) (q : R) : rcvW .popAt (.ref p) M ∧ R := ⟨r_popAt hp, q⟩
theorem y_non {t : String} (q : T (t == "NoneType") M) : isTyW .non t M T := q
theorem y_bl {t : String} {b : Bool} (q : T (t == "bool" || t == "int") M) : isTyW (.bl b) t M T := q
theorem y_int {t : String} {i : Int} (q : T (t == "int") M) : isTyW (.int i) t M T := q
theorem y_str {t : String} {x : Str} (q : T (t == "str") M) : isTyW (.str x) t M T := q
theorem y_tup {t : String} {l : List U} (q : T (t == "tuple") M) : isTyW (.tup l) t M T := q
theorem y_lst {t : String} {p : Addr} {us : List U} (hp : M p = some (.lst us)) (q : T (t == "list") M) : isTyW (.ref p) t M T := ⟨us, hp, q⟩
/-! what is walked -/
theorem w_seq (q : (w C a).e σ M fun x M1 => seqI x M1 I) : (w C (.iSeq a)).i σ M I := q
theorem w_rng (q : (w C a).e σ M fun x M1 => ∃ n, x = .int n ∧ n ≤ LIM ∧ -LIM ≤ n ∧ I (rngU 0 n) (fun _ => True) (fun P => P) M1) : (w C (.iRange a)).i σ M I := q
theorem w_rng2 (q : (w C a).e σ M fun x M1 => (w C b).e σ M1 fun y M2 => ∃ m n, x = .int m ∧ y = .int n ∧ -LIM ≤ m ∧ m ≤ LIM ∧ n ≤ LIM ∧ -LIM ≤ n ∧ I (rngU m n) (fun _ => True) (fun P => P) M2) : (w C (.iRange2 a b)).i σ M I := q
theorem w_zip (q : (w C a).e σ M fun x M1 => (w C b).e σ M1 fun y M2 => zipI x y M2 I) : (w C (.iZip a b)).i σ M I := q
theorem zi_tt {l r : List U} (q : I (zipU l r) (fun _ => True) (fun P => P) M) : zipI (.tup l) (.tup r) M I := .inl ⟨l, r, rfl, rfl, q⟩
theorem zi_dt {l r : List U} (q : I (zipU l r) (fun _ => True) (fun P => P) M) : zipI (.dtp l) (.tup r) M I := .inl ⟨l, r, rfl, rfl, q⟩
theorem zi_td {l r : List U} (q : I (zipU l r) (fun _ => True) (fun P => P) M) : zipI (.tup l) (.dtp r) M I := .inl ⟨l, r, rfl, rfl, q⟩
theorem zi_dd {l r : List U} (q : I (zipU l r) (fun _ => True) (fun P => P) M) : zipI (.dtp l) (.dtp r) M I := .inl ⟨l, r, rfl, rfl, q⟩
theorem w_enum (q : (w C a).e σ M fun x M1 => seqI x M1 fun us g ex M2 => I (enumU us) g ex M2) : (w C (.iEnum a)).i σ M I := q
theorem w_istr (q : (w C a).e σ M fun x M1 => ∃ s, x = .str s ∧ I (signs s) (fun _ => True) (fun P => P) M1) : (w C (.iStr a)).i σ M I := q
theorem w_rev (q : (w C a).e σ M fun x M1 => revI x M1 I) : (w C (.iRev a)).i σ M I := q
theorem r_tup {l : List U} (q : I l.reverse (fun _ => True) (fun P => P) M) : revI (.tup l) M I := q
theorem r_dtp {l : List U} (q : I l.reverse (fun _ => True) (fun P => P) M) : revI (.dtp l) M I := q
theorem r_lst {p : Addr} {us : List U} (hp : M p = some (.lst us)) (q : I us.reverse (fun M' => M' p = some (.lst us)) (fun P => P) M) : revI (.ref p) M I := ⟨us, hp, q⟩
theorem s_tup {l : List U} (q : I l (fun _ => True) (fun P => P) M) : seqI (.tup l) M I := q
theorem s_rol {l : List U} (q : I l (fun _ => True) (fun P => P) M) : seqI (.rol l) M I := q
theorem s_lst {p : Addr} {us : List U} (hp : M p = some (.lst us)) (q : I us (fun M' => M' p = some (.lst us)) (fun P => P) M) : seqI (.ref p) M I := ⟨us, hp, q⟩
/-! statements -/
variable {nx : SU → Hm → Prop} {rt : QU} {bk ct : SU → Hm → Prop} {x y z : S}
theorem z_skip (q : nx σ M) : wS C .skip ⟨nx, rt, bk, ct⟩ σ M := q
theorem z_seq (q : wS C x ⟨wS C y ⟨nx, rt, bk, ct⟩, rt, bk, ct⟩ σ M) : wS C (.seq x y) ⟨nx, rt, bk, ct⟩ σ M := q
theorem z_asg (q : (w C a).e σ M fun x M1 => nx (σ.set i (some x)) M1) : wS C (.asg i a) ⟨nx, rt, bk, ct⟩ σ M := q
theorem z_asgT {is : List Nat} (q : (w C a).e σ M fun x M1 => ∃ l σ', x = .tup l ∧ setAll is l σ = some σ' ∧ nx σ' M1) : wS C (.asgT is a) ⟨nx, rt, bk, ct⟩ σ M := q
theorem z_asgT2 {is : List Nat} {l : List U} {σ' : SU} (h : setAll is l σ = some σ') (q : nx σ' M) : ∃ l' σ', U.tup l = .tup l' ∧ setAll is l' σ = some σ' ∧ nx σ' M := ⟨l, σ', rfl, h, q⟩
theorem z_asgU {is : List Nat} (q : (w C a).e σ M fun x M1 => ∃ p l σ', x = .ref p ∧ M1 p = some (.lst l) ∧ setAll is l σ = some σ' ∧ nx σ' M1) : wS C (.asgU is a) ⟨nx, rt, bk, ct⟩ σ M := q
theorem z_asgU2 {is : List Nat} {p : Addr} {l : List U} {σ' : SU} (hp : M p = some (.lst l)) (h : setAll is l σ = some σ') (q : nx σ' M) : ∃ p' l' σ', U.ref p = .ref p' ∧ M p' = some (.lst l') ∧ setAll is l' σ = some σ' ∧ nx σ' M := ⟨p, l, σ', rfl, hp, h, q⟩
theorem z_setIx (q : (w C c).e σ M fun v M1 => (w C a).e σ M1 fun x M2 => (w C b).e σ M2 fun y M3 => setW x y v M3 (nx σ)) : wS C (.setIx a b c) ⟨nx, rt, bk, ct⟩ σ M := q
theorem z_delIx (q : (w C a).e σ M fun x M1 => (w C b).e σ M1 fun y M2 => ∃ p ks, x = .ref p ∧ M2 p = some (.dct false false ks) ∧ isKey y = true ∧ (dfind ks y).isSome = true ∧ nx σ (um M2 p (.dct false false (ddrop ks y)))) : wS C (.delIx a b) ⟨nx, rt, bk, ct⟩ σ M := q
theorem z_augV {op : Bop} {x : Int} (h : σ[i]? = some (some (.int x))) (q : (w C a).e σ M fun y M1 => ∃ b, y = .int b ∧ binW op (.int x) (.int b) M1 fun z M2 => nx (σ.set i (some z)) M2) : wS C (.augV i op a) ⟨nx, rt, bk, ct⟩ σ M := ⟨_, h, by
  have e : ∀ y M1, (∃ b, y = .int b ∧ binW op (.int x) (.int b) M1 fun z M2 => nx (σ.set i (some z)) M2) = (∃ a b, U.int x = .int a ∧ y = .int b ∧ binW op (.int x) y M1 fun z M2 => nx (σ.set i (some z)) M2) := fun y M1 => propext ⟨fun ⟨b, e, q⟩ => ⟨x, b, rfl, e, by rw [e]; exact q⟩, fun ⟨a, b, _, e, q⟩ => ⟨b, e, by rw [e] at q; exact q⟩⟩
  simp only [e] at q
  exact q⟩
theorem z_augIx {op : Bop} (q : (w C a).e σ M fun x M1 => (w C b).e σ M1 fun y M2 => getW x y M2 fun v M3 => (w C c).e σ M3 fun z M4 => ∃ a b, v = .int a ∧ z = .int b ∧ binW op v z M4 fun r M5 => setW x y r M5 (nx σ)) : wS C (.augIx a b op c) ⟨nx, rt, bk, ct⟩ σ M := q
theorem z_ifs (q : (w C c).t σ M fun k M1 => if k = true then wS C x ⟨nx, rt, bk, ct⟩ σ M1 else wS C y ⟨nx, rt, bk, ct⟩ σ M1) : wS C (.ifs c x y) ⟨nx, rt, bk, ct⟩ σ M := q
theorem z_for {tg : Tg} (q : (w C a).i σ M fun items g ex M1 => forL (fun u k σ M => tgW tg u σ fun σ2 => wS C x ⟨k, fun u M => ex (rt u) M, fun σ M => ex (nx σ) M, k⟩ σ2 M) g (fun σ M => ex (nx σ) M) items σ M1) : wS C (.for_ tg a x) ⟨nx, rt, bk, ct⟩ σ M := q
theorem z_raise1 {cn f : Str} (q : (w C a).e σ M fun x M1 => tellU x ∧ ∀ dx, M1 dx = none → C.xc cn (some dx) σ (um M1 dx (.exd [(f, x)]))) : wS C (.raise1 cn f a) ⟨nx, rt, bk, ct⟩ σ M := q
theorem z_raise0 {cn : Str} (q : C.xc cn none σ M) : wS C (.raise0 cn) ⟨nx, rt, bk, ct⟩ σ M := q
theorem z_try (q : wS ⟨C.x, fun cn dx σ' M' => wH C y ⟨nx, rt, bk, ct⟩ cn dx σ' M', C.cur⟩ x ⟨nx, rt, bk, ct⟩ σ M) : wS C (.try_ x y) ⟨nx, rt, bk, ct⟩ σ M := q
theorem h_yes {i : Nat} {yes no : List Str} {cn : Str} {dx : Option Addr} (h : (decide (cn ∈ yes) && !decide (cn ∈ no)) = true) (q : ∀ p, M p = none → wS ⟨C.x, fun _ _ _ _ => False, some (p, cn, dx)⟩ x ⟨fun σ M => nx (σ.set i none) M, rt, fun σ M => bk (σ.set i none) M, fun σ M => ct (σ.set i none) M⟩ (σ.set i (some (.ref p))) M) :
    wH C (.hdl (some i) yes no x y) ⟨nx, rt, bk, ct⟩ cn dx σ M := by
  rw [Bool.and_eq_true, decide_eq_true_eq, Bool.not_eq_true', decide_eq_false_iff_not] at h
  exact ⟨.inl h.1, fun _ => q, fun z => absurd z h.2⟩
theorem h_no {i : Option Nat} {yes no : List Str} {cn : Str} {dx : Option Addr} (h : (!decide (cn ∈ yes) && decide (cn ∈ no)) = true) (q : wH C y ⟨nx, rt, bk, ct⟩ cn dx σ M) : wH C (.hdl i yes no x y) ⟨nx, rt, bk, ct⟩ cn dx σ M := by
  rw [Bool.and_eq_true, decide_eq_true_eq, Bool.not_eq_true', decide_eq_false_iff_not] at h
  exact ⟨.inr h.2, fun z => absurd z h.1, fun _ => q⟩
theorem z_ret (q : (w C a).e σ M rt) : wS C (.ret a) ⟨nx, rt, bk, ct⟩ σ M := q
theorem z_retN (q : rt .non M) : wS C .retN ⟨nx, rt, bk, ct⟩ σ M := q
theorem z_brk (q : bk σ M) : wS C .brk ⟨nx, rt, bk, ct⟩ σ M := q
theorem z_cnt (q : ct σ M) : wS C .cnt ⟨nx, rt, bk, ct⟩ σ M := q
theorem z_expr (q : (w C a).e σ M fun _ M1 => nx σ M1) : wS C (.expr a) ⟨nx, rt, bk, ct⟩ σ M := q
theorem tg_one {u : U} {R : SU → Prop} (q : R (σ.set i (some u))) : tgW (.one i) u σ R := q
theorem tg_many {is : List Nat} {l : List U} {σ' : SU} {R : SU → Prop} (h : setAll is l σ = some σ') (q : R σ') : tgW (.many is) (.tup l) σ R := ⟨l, σ', rfl, h, q⟩
end
/-- a loop by what holds between: what is done, what is left -/
theorem forL_by {α : Type} {enc : α → U} {step : U → (SU → Hm → Prop) → SU → Hm → Prop} {g : Hm → Prop} {fin : SU → Hm → Prop} (I : List α → List α → SU → Hm → Prop) (l : List α) {σ : SU} {M : Hm} (h0 : I [] l σ M)
    (h1 : ∀ don x rest σ M (k : SU → Hm → Prop), don ++ x :: rest = l → I don (x :: rest) σ M → (∀ σ' M', g M' → I (don ++ [x]) rest σ' M' → k σ' M') → step (enc x) k σ M)
    (h2 : ∀ σ M, I l [] σ M → fin σ M) : forL step g fin (l.map enc) σ M := by
  suffices h : ∀ (rest don : List α) σ M, don ++ rest = l → I don rest σ M → forL step g fin (rest.map enc) σ M from h l [] σ M rfl h0
  intro rest
  induction rest with
  | nil =>
    intro don σ M e h
    rw [List.append_nil] at e
    subst e
    exact h2 σ M h
  | cons x rest ih =>
    intro don σ M e h
    exact h1 don x rest σ M _ e h fun σ' M' hg hi => ⟨hg, ih (don ++ [x]) σ' M' (by rw [List.append_assoc]; exact e) hi⟩
/-- a dict's comprehension by what holds between -/
theorem dcompL_by {α : Type} {enc : α → U} {step : U → (Hm → Prop) → Hm → Prop} {g : Hm → Prop} {fin : Hm → Prop} (I : List α → List α → Hm → Prop) (l : List α) {M : Hm} (h0 : I [] l M)
    (h1 : ∀ don x rest M (k : Hm → Prop), don ++ x :: rest = l → I don (x :: rest) M → (∀ M', g M' → I (don ++ [x]) rest M' → k M') → step (enc x) k M)
    (h2 : ∀ M, I l [] M → fin M) : dcompL step g fin (l.map enc) M := by
  suffices h : ∀ (rest don : List α) M, don ++ rest = l → I don rest M → dcompL step g fin (rest.map enc) M from h l [] M rfl h0
  intro rest
  induction rest with
  | nil =>
    intro don M e h
    rw [List.append_nil] at e
    subst e
    exact h2 M h
  | cons x rest ih =>
    intro don M e h
    exact h1 don x rest M _ e h fun M' hg hi => ⟨hg, ih (don ++ [x]) M' (by rw [List.append_assoc]; exact e) hi⟩
theorem compL_by {α : Type} {enc : α → U} {step : U → (Option U → Hm → Prop) → Hm → Prop} {g : Hm → Prop} {fin : List U → Hm → Prop} (I : List α → List α → List U → Hm → Prop) (l : List α) {acc : List U} {M : Hm} (h0 : I [] l acc M)
    (h1 : ∀ don x rest acc M (k : Option U → Hm → Prop), don ++ x :: rest = l → I don (x :: rest) acc M → (∀ o M', g M' → (o.isSome = true → acc.length < LIM) → I (don ++ [x]) rest (acc ++ o.toList) M' → k o M') → step (enc x) k M)
    (h2 : ∀ acc M, I l [] acc M → fin acc M) : compL step g fin (l.map enc) acc M := by
  suffices h : ∀ (rest don : List α) acc M, don ++ rest = l → I don rest acc M → compL step g fin (rest.map enc) acc M from h l [] acc M rfl h0
  intro rest
  induction rest with
  | nil =>
    intro don acc M e h
    rw [List.append_nil] at e
    subst e
    exact h2 acc M h
  | cons x rest ih =>
    intro don acc M e h
    exact h1 don x rest acc M _ e h fun o M' hg hl hi => ⟨hg, hl, ih (don ++ [x]) _ M' (by rw [List.append_assoc]; exact e) hi⟩
end Pl

set_option maxHeartbeats 400000
/-! steps for instances and their like -/
namespace Pl
open PySem L2
section
variable {C : CE} {σ : SU} {M : Hm} {Q : QU} {T : Bool → Hm → Prop} {L : List U → Hm → Prop} {a b c d es : E} {i : Nat}
theorem i_fld {f : Str} (q : (w C a).e σ M fun x M1 => ∃ p c fs v, x = .ref p ∧ M1 p = some (.obj c fs) ∧ fs.lookup f = some v ∧ Q v M1) : (w C (.fld f a)).e σ M Q := q
theorem t_fld {f : Str} (q : (w C a).e σ M fun x M1 => ∃ p c fs v, x = .ref p ∧ M1 p = some (.obj c fs) ∧ fs.lookup f = some v ∧ truW v M1 T) : (w C (.fld f a)).t σ M T := q
theorem i_isF {f cn : Str} {p : Addr} {fs : List (Str × U)} {v : U} {R : U → Prop} (hp : M p = some (.obj cn fs)) (hl : fs.lookup f = some v) (q : R v) : ∃ p' c' fs' v', U.ref p = .ref p' ∧ M p' = some (.obj c' fs') ∧ fs'.lookup f = some v' ∧ R v' := ⟨p, cn, fs, v, rfl, hp, hl, q⟩
theorem i_meth {cn m : Str} {f : Nat} (q : (w C a).e σ M fun x M1 => (∃ p fs, x = .ref p ∧ M1 p = some (.obj cn fs) ∧ fs.lookup m = none) ∧ (w C es).l σ M1 fun xs M2 => C f (x :: xs) M2 Q) : (w C (.meth cn m f a es)).e σ M Q := q
theorem t_meth {cn m : Str} {f : Nat} (q : (w C a).e σ M fun x M1 => (∃ p fs, x = .ref p ∧ M1 p = some (.obj cn fs) ∧ fs.lookup m = none) ∧ (w C es).l σ M1 fun xs M2 => C f (x :: xs) M2 fun u M3 => truW u M3 T) : (w C (.meth cn m f a es)).t σ M T := q
theorem i_isO {cn m : Str} {R : Prop} {p : Addr} {fs : List (Str × U)} (hp : M p = some (.obj cn fs)) (hl : fs.lookup m = none) (q : R) : (∃ p' fs', U.ref p = .ref p' ∧ M p' = some (.obj cn fs') ∧ fs'.lookup m = none) ∧ R := ⟨⟨p, fs, rfl, hp, hl⟩, q⟩
theorem i_make {cn : Str} {f : Nat} (q : (w C es).l σ M fun xs M1 => ∀ p, M1 p = none → C f (.ref p :: xs) (um M1 p (.obj cn [])) fun u M2 => u = .non ∧ Q (.ref p) M2) : (w C (.make cn f es)).e σ M Q := q
theorem i_prop {cn m : Str} {f : Nat} (q : (w C a).e σ M fun x M1 => (∃ p fs, x = .ref p ∧ M1 p = some (.obj cn fs)) ∧ C f [x] M1 Q) : (w C (.prop cn m f a)).e σ M Q := q
theorem t_prop {cn m : Str} {f : Nat} (q : (w C a).e σ M fun x M1 => (∃ p fs, x = .ref p ∧ M1 p = some (.obj cn fs)) ∧ C f [x] M1 fun u M3 => truW u M3 T) : (w C (.prop cn m f a)).t σ M T := q
theorem i_isQ {cn : Str} {R : Prop} {p : Addr} {fs : List (Str × U)} (hp : M p = some (.obj cn fs)) (q : R) : (∃ p' fs', U.ref p = .ref p' ∧ M p' = some (.obj cn fs')) ∧ R := ⟨⟨p, fs, rfl, hp⟩, q⟩
theorem i_setdef (q : (w C a).e σ M fun x M1 => isDW x M1 ∧ (w C b).e σ M1 fun y M2 => (w C c).e σ M2 fun v M3 => setdefW x y v M3 Q) : (w C (.setdef a b c)).e σ M Q := q
theorem i_lrng1 {t : Bool} (q : (w C b).e σ M fun y M2 => ∃ n, y = .int n ∧ n ≤ LIM ∧ -LIM ≤ n ∧ if t = true then Q (.tup (rngU 0 n)) M2 else ∀ p, M2 p = none → Q (.ref p) (um M2 p (.lst (rngU 0 n)))) : (w C (.lrng t .nil b)).e σ M Q := by
  refine (?_ : partW .nil (w C .nil).e σ M fun lo M1 => (w C b).e σ M1 fun y M2 => ∃ n, y = .int n ∧ n ≤ LIM ∧ -LIM ≤ n ∧ lo.getD 0 ≤ LIM ∧ -LIM ≤ lo.getD 0 ∧ if t = true then Q (.tup (rngU (lo.getD 0) n)) M2 else ∀ p, M2 p = none → Q (.ref p) (um M2 p (.lst (rngU (lo.getD 0) n))))
  unfold partW
  rw [if_pos (show isNil .nil = true from rfl)]
  have e : (fun (y : U) (M2 : Hm) => ∃ n : Int, y = .int n ∧ n ≤ LIM ∧ -LIM ≤ n ∧ if t = true then Q (.tup (rngU 0 n)) M2 else ∀ p, M2 p = none → Q (.ref p) (um M2 p (.lst (rngU 0 n)))) =
      fun y M2 => ∃ n : Int, y = .int n ∧ n ≤ LIM ∧ -LIM ≤ n ∧ ((none : Option Int).getD 0) ≤ LIM ∧ -LIM ≤ ((none : Option Int).getD 0) ∧ if t = true then Q (.tup (rngU ((none : Option Int).getD 0) n)) M2 else ∀ p, M2 p = none → Q (.ref p) (um M2 p (.lst (rngU ((none : Option Int).getD 0) n))) := by
    funext y M2
    refine propext ⟨fun ⟨(n : Int), h1, h2, h3, h4⟩ => ⟨n, h1, h2, h3, by show (0 : Int) ≤ _; unfold LIM; omega, by show _ ≤ (0 : Int); unfold LIM; omega, h4⟩, fun ⟨(n : Int), h1, h2, h3, _, _, h4⟩ => ⟨n, h1, h2, h3, h4⟩⟩
  rw [e] at q
  exact q
theorem i_tidx (q : (w C a).e σ M fun x M1 => (∃ l, x = .dtp l) ∧ (w C b).e σ M1 fun y M2 => tidxW x y M2 Q) : (w C (.tidx a b)).e σ M Q := q
theorem i_isT {l : List U} {R : Prop} (q : R) : (∃ l', U.dtp l = .dtp l') ∧ R := ⟨⟨l, rfl⟩, q⟩
theorem in_dtp {x : U} {l : List U} (h1 : l.all isKey = true) (h2 : isKey x = true) (q : T (decide (x ∈ l)) M) : inW false x (.dtp l) M T := ⟨⟨h1, h2⟩, q⟩
theorem tr_dtp {l : List U} (q : T (!decide (l = [])) M) : truW (.dtp l) M T := by
  show T (!l.isEmpty) M
  rw [emp_dec]; exact q
theorem x_dtp {l : List U} {j : Int} {v : U} (h : atI l j = some v) (q : Q v M) : ixW (.dtp l) (.int j) M Q := ⟨j, v, rfl, h, q⟩
theorem f_lenU {l : List U} (q : Q (.int l.length) M) : bltW .len [.dtp l] M Q := q
theorem f_listU {l : List U} (q : ∀ a, M a = none → Q (.ref a) (um M a (.lst l))) : bltW .list [.dtp l] M Q := q
theorem f_tupU {l : List U} (q : Q (.dtp l) M) : bltW .tuple [.dtp l] M Q := q
theorem f_tupd {p : Addr} {us : List U} (hp : M p = some (.lst us)) (q : Q (.dtp us) M) : bltW .tupd [.ref p] M Q := ⟨us, hp, q⟩
theorem f_dict {p : Addr} {ks : List (U × U)} (hp : M p = some (.dct false false ks)) (q : ∀ a, M a = none → Q (.ref a) (um M a (.dct false false ks))) : bltW .dict [.ref p] M Q := ⟨ks, hp, q⟩
theorem y_dtp {t : String} {l : List U} (q : T (t == "tuple") M) : isTyW (.dtp l) t M T := q
theorem s_dtp {l : List U} {I : List U → (Hm → Prop) → ((Hm → Prop) → Hm → Prop) → Hm → Prop} (q : I l (fun _ => True) (fun P => P) M) : seqI (.dtp l) M I := q
theorem i_gint {x : Str} {j : Int} (q : Q (.int j) M) : (w C (.gint x j)).e σ M Q := q
theorem i_gstr {x s : Str} (q : Q (.str s) M) : (w C (.gstr x s)).e σ M Q := q
theorem i_gdat {x : Str} {u : U} (q : Q u M) : (w C (.gdat x u)).e σ M Q := q
theorem i_gtup {x : Str} {is : List Int} (q : Q (.tup (is.map U.int)) M) : (w C (.gtup x is)).e σ M Q := q
theorem o_rep {p : Addr} {us : List U} {k : Int} (hp : M p = some (.lst us)) (h1 : -LIM ≤ k) (h2 : k ≤ LIM) (h3 : us.length * k.toNat ≤ LIM) (q : ∀ a, M a = none → Q (.ref a) (um M a (.lst (List.replicate k.toNat us).flatten))) : binW .mul (.ref p) (.int k) M Q := ⟨us, hp, h1, h2, h3, q⟩
theorem f_sum {p : Addr} {ns : List Int} (hp : M p = some (.lst (ns.map U.int))) (q : Q (.int ns.sum) M) : bltW .sum [.ref p] M Q := ⟨ns, hp, q⟩
theorem f_all {p : Addr} {bs : List Bool} (hp : M p = some (.lst (bs.map U.bl))) (q : Q (.bl (bs.all id)) M) : bltW .all [.ref p] M Q := ⟨bs, hp, q⟩
theorem f_any {p : Addr} {bs : List Bool} (hp : M p = some (.lst (bs.map U.bl))) (q : Q (.bl (bs.any id)) M) : bltW .any [.ref p] M Q := ⟨bs, hp, q⟩
variable {nx : SU → Hm → Prop} {rt : QU} {bk ct : SU → Hm → Prop} {x y z : S}
theorem z_setF {cn f : Str} (q : (w C b).e σ M fun v M1 => (w C a).e σ M1 fun x M2 => ∃ p fs, x = .ref p ∧ M2 p = some (.obj cn fs) ∧ fs.length < 1000 ∧ nx σ (um M2 p (.obj cn (fput f v fs)))) : wS C (.setF cn f a b) ⟨nx, rt, bk, ct⟩ σ M := q
theorem st_fld {cn : Str} {p : Addr} {fs : List (Str × U)} {R : Addr → List (Str × U) → Prop} (hp : M p = some (.obj cn fs)) (hl : fs.length < 1000) (q : R p fs) : ∃ p' fs', U.ref p = .ref p' ∧ M p' = some (.obj cn fs') ∧ fs'.length < 1000 ∧ R p' fs' := ⟨p, fs, rfl, hp, hl, q⟩
end
end Pl

set_option maxHeartbeats 400000
local macro_rules | `(tactic| get_elem_tactic_extensible) => `(tactic| exact Pl.um_none (by assumption))
local macro_rules | `(tactic| get_elem_tactic_extensible) => `(tactic| (refine Pl.um_oth (by first | assumption | exact Ne.symm (by assumption)) ?_; get_elem_tactic_extensible))
local macro_rules | `(tactic| get_elem_tactic_extensible) => `(tactic| (refine Pl.um_old ?_ ?_ <;> get_elem_tactic_extensible))
local macro_rules | `(tactic| get_elem_tactic_extensible) => `(tactic| exact Pl.um_same)
local macro_rules | `(tactic| get_elem_tactic_extensible) => `(tactic| assumption)
local macro_rules | `(tactic| array_get_dec) => `(tactic| with_reducible refine Pl.i_tidx ?_)
local macro_rules | `(tactic| array_get_dec) => `(tactic| with_reducible refine Pl.i_slice ?_)
local macro_rules | `(tactic| array_get_dec) => `(tactic| with_reducible refine Pl.i_setdef ?_)
local macro_rules | `(tactic| array_get_dec) => `(tactic| with_reducible refine Pl.i_prop ?_)
local macro_rules | `(tactic| array_get_dec) => `(tactic| with_reducible refine Pl.i_ors ?_)
local macro_rules | `(tactic| array_get_dec) => `(tactic| with_reducible refine Pl.i_notN ?_)
local macro_rules | `(tactic| array_get_dec) => `(tactic| with_reducible refine Pl.i_not ?_)
local macro_rules | `(tactic| array_get_dec) => `(tactic| with_reducible refine Pl.i_non ?_)
local macro_rules | `(tactic| array_get_dec) => `(tactic| with_reducible refine Pl.i_neg ?_)
local macro_rules | `(tactic| array_get_dec) => `(tactic| with_reducible refine Pl.i_mth ?_)
local macro_rules | `(tactic| array_get_dec) => `(tactic| with_reducible refine Pl.i_meth ?_)
local macro_rules | `(tactic| array_get_dec) => `(tactic| with_reducible refine Pl.i_make ?_)
local macro_rules | `(tactic| array_get_dec) => `(tactic| with_reducible refine Pl.i_lst ?_)
local macro_rules | `(tactic| array_get_dec) => `(tactic| with_reducible refine Pl.i_lrng1 ?_)
local macro_rules | `(tactic| array_get_dec) => `(tactic| with_reducible refine Pl.i_ite ?_)
local macro_rules | `(tactic| array_get_dec) => `(tactic| with_reducible refine Pl.i_isinst ?_)
local macro_rules | `(tactic| array_get_dec) => `(tactic| with_reducible refine Pl.i_isNB ?_)
local macro_rules | `(tactic| array_get_dec) => `(tactic| with_reducible refine Pl.i_isN ?_)
local macro_rules | `(tactic| array_get_dec) => `(tactic| with_reducible refine Pl.i_isB ?_)
local macro_rules | `(tactic| array_get_dec) => `(tactic| with_reducible refine Pl.i_gdat ?_)
local macro_rules | `(tactic| array_get_dec) => `(tactic| with_reducible refine Pl.i_gtup ?_)
local macro_rules | `(tactic| array_get_dec) => `(tactic| with_reducible refine Pl.i_gstr ?_)
local macro_rules | `(tactic| array_get_dec) => `(tactic| with_reducible refine Pl.i_gint ?_)
local macro_rules | `(tactic| array_get_dec) => `(tactic| with_reducible refine Pl.i_fld ?_)
local macro_rules | `(tactic| array_get_dec) => `(tactic| with_reducible refine Pl.i_dtup ?_)
local macro_rules | `(tactic| array_get_dec) => `(tactic| with_reducible refine Pl.i_ddispN ?_)
local macro_rules | `(tactic| array_get_dec) => `(tactic| with_reducible refine Pl.i_dnewN ?_)
local macro_rules | `(tactic| array_get_dec) => `(tactic| with_reducible refine Pl.i_dnew ?_)
local macro_rules | `(tactic| array_get_dec) => `(tactic| with_reducible refine Pl.i_dget1 ?_)
local macro_rules | `(tactic| array_get_dec) => `(tactic| with_reducible refine Pl.i_dgetN ?_)
local macro_rules | `(tactic| array_get_dec) => `(tactic| with_reducible refine Pl.i_dget ?_)
local macro_rules | `(tactic| array_get_dec) => `(tactic| with_reducible refine Pl.i_dcomp0 ?_)
local macro_rules | `(tactic| array_get_dec) => `(tactic| with_reducible refine Pl.i_compN ?_)
local macro_rules | `(tactic| array_get_dec) => `(tactic| ((with_reducible apply Pl.i_compC); exact rfl))
local macro_rules | `(tactic| array_get_dec) => `(tactic| with_reducible refine Pl.i_chain ?_)
local macro_rules | `(tactic| array_get_dec) => `(tactic| with_reducible refine Pl.i_blt ?_)
local macro_rules | `(tactic| array_get_dec) => `(tactic| with_reducible refine Pl.i_bl ?_)
local macro_rules | `(tactic| array_get_dec) => `(tactic| with_reducible refine Pl.i_bin ?_)
local macro_rules | `(tactic| array_get_dec) => `(tactic| with_reducible refine Pl.i_ands ?_)
local macro_rules | `(tactic| array_get_dec) => `(tactic| with_reducible refine Pl.i_tup ?_)
local macro_rules | `(tactic| array_get_dec) => `(tactic| with_reducible refine Pl.i_cmp ?_)
local macro_rules | `(tactic| array_get_dec) => `(tactic| with_reducible refine Pl.i_call ?_)
local macro_rules | `(tactic| array_get_dec) => `(tactic| with_reducible refine Pl.i_ix ?_)
local macro_rules | `(tactic| array_get_dec) => `(tactic| with_reducible refine Pl.i_int ?_)
local macro_rules | `(tactic| array_get_dec) => `(tactic| with_reducible refine Pl.i_str ?_)
local macro_rules | `(tactic| array_get_dec) => `(tactic| with_reducible refine Pl.i_sset ?_)
local macro_rules | `(tactic| array_get_dec) => `(tactic| ((with_reducible apply Pl.i_var); exact rfl))
local macro_rules | `(tactic| array_get_dec) => `(tactic| ((with_reducible apply Pl.i_isx); exact rfl; exact rfl; decide +kernel; (first | exact Pl.ex_no | exact Pl.ex_one (by get_elem_tactic_extensible))))
local macro_rules | `(tactic| array_get_dec) => `(tactic| ((with_reducible apply Pl.i_xfd); exact rfl; decide +kernel; exact rfl; get_elem_tactic_extensible; exact rfl))
local macro_rules | `(tactic| array_get_dec) => `(tactic| with_reducible refine Pl.i_callX ?_)
local macro_rules | `(tactic| array_get_dec) => `(tactic| with_reducible refine Pl.i_comp2N ?_)
local macro_rules | `(tactic| mleft) => `(tactic| with_reducible refine Pl.z_skip ?_)
local macro_rules | `(tactic| mleft) => `(tactic| with_reducible refine Pl.z_delIx ?_)
local macro_rules | `(tactic| mleft) => `(tactic| with_reducible refine Pl.z_setIx ?_)
local macro_rules | `(tactic| mleft) => `(tactic| with_reducible refine Pl.z_setF ?_)
local macro_rules | `(tactic| mleft) => `(tactic| with_reducible refine Pl.z_retN ?_)
local macro_rules | `(tactic| mleft) => `(tactic| with_reducible refine Pl.z_ret ?_)
local macro_rules | `(tactic| mleft) => `(tactic| with_reducible refine Pl.z_ifs ?_)
local macro_rules | `(tactic| mleft) => `(tactic| with_reducible refine Pl.z_for ?_)
local macro_rules | `(tactic| mleft) => `(tactic| with_reducible refine Pl.z_expr ?_)
local macro_rules | `(tactic| mleft) => `(tactic| with_reducible refine Pl.z_cnt ?_)
local macro_rules | `(tactic| mleft) => `(tactic| with_reducible refine Pl.z_brk ?_)
local macro_rules | `(tactic| mleft) => `(tactic| ((with_reducible apply Pl.z_augV); exact rfl))
local macro_rules | `(tactic| mleft) => `(tactic| with_reducible refine Pl.z_augIx ?_)
local macro_rules | `(tactic| mleft) => `(tactic| with_reducible refine Pl.z_asgU ?_)
local macro_rules | `(tactic| mleft) => `(tactic| with_reducible refine Pl.z_asgT ?_)
local macro_rules | `(tactic| mleft) => `(tactic| with_reducible refine Pl.z_asg ?_)
local macro_rules | `(tactic| mleft) => `(tactic| with_reducible refine Pl.z_seq ?_)
local macro_rules | `(tactic| mleft) => `(tactic| with_reducible refine Pl.z_try ?_)
local macro_rules | `(tactic| mleft) => `(tactic| with_reducible refine Pl.z_raise0 ?_)
local macro_rules | `(tactic| mleft) => `(tactic| with_reducible refine Pl.z_raise1 ?_)
local macro_rules | `(tactic| array_mem_dec) => `(tactic| ((with_reducible apply Pl.t_var); exact rfl))
local macro_rules | `(tactic| array_mem_dec) => `(tactic| with_reducible refine Pl.t_prop ?_)
local macro_rules | `(tactic| array_mem_dec) => `(tactic| with_reducible refine Pl.t_ors ?_)
local macro_rules | `(tactic| array_mem_dec) => `(tactic| with_reducible refine Pl.t_notN ?_)
local macro_rules | `(tactic| array_mem_dec) => `(tactic| with_reducible refine Pl.t_not ?_)
local macro_rules | `(tactic| array_mem_dec) => `(tactic| with_reducible refine Pl.t_meth ?_)
local macro_rules | `(tactic| array_mem_dec) => `(tactic| with_reducible refine Pl.t_ix ?_)
local macro_rules | `(tactic| array_mem_dec) => `(tactic| with_reducible refine Pl.t_isinst ?_)
local macro_rules | `(tactic| array_mem_dec) => `(tactic| with_reducible refine Pl.t_isNB ?_)
local macro_rules | `(tactic| array_mem_dec) => `(tactic| with_reducible refine Pl.t_isN ?_)
local macro_rules | `(tactic| array_mem_dec) => `(tactic| with_reducible refine Pl.t_isB ?_)
local macro_rules | `(tactic| array_mem_dec) => `(tactic| with_reducible refine Pl.t_fld ?_)
local macro_rules | `(tactic| array_mem_dec) => `(tactic| with_reducible refine Pl.t_dget ?_)
local macro_rules | `(tactic| array_mem_dec) => `(tactic| with_reducible refine Pl.t_cmp ?_)
local macro_rules | `(tactic| array_mem_dec) => `(tactic| with_reducible refine Pl.t_chain ?_)
local macro_rules | `(tactic| array_mem_dec) => `(tactic| with_reducible refine Pl.t_call ?_)
local macro_rules | `(tactic| array_mem_dec) => `(tactic| with_reducible refine Pl.t_blt ?_)
local macro_rules | `(tactic| array_mem_dec) => `(tactic| with_reducible refine Pl.t_bl ?_)
local macro_rules | `(tactic| array_mem_dec) => `(tactic| with_reducible refine Pl.t_bin ?_)
local macro_rules | `(tactic| array_mem_dec) => `(tactic| with_reducible refine Pl.t_ands ?_)
local macro_rules | `(tactic| array_mem_dec) => `(tactic| ((with_reducible apply Pl.t_isx); exact rfl; exact rfl; decide +kernel; (first | exact Pl.ex_no | exact Pl.ex_one (by get_elem_tactic_extensible))))
local macro_rules | `(tactic| array_mem_dec) => `(tactic| with_reducible refine Pl.t_callX ?_)
local macro_rules | `(tactic| mright) => `(tactic| ((with_reducible apply Pl.f_tupd); get_elem_tactic_extensible))
local macro_rules | `(tactic| mright) => `(tactic| with_reducible refine Pl.f_tupU ?_)
local macro_rules | `(tactic| mright) => `(tactic| with_reducible refine Pl.f_tupT ?_)
local macro_rules | `(tactic| mright) => `(tactic| ((with_reducible apply Pl.f_tupL); get_elem_tactic_extensible))
local macro_rules | `(tactic| mright) => `(tactic| ((with_reducible apply Pl.f_sum); get_elem_tactic_extensible))
local macro_rules | `(tactic| mright) => `(tactic| with_reducible refine Pl.f_min ?_)
local macro_rules | `(tactic| mright) => `(tactic| with_reducible refine Pl.f_max ?_)
local macro_rules | `(tactic| mright) => `(tactic| with_reducible refine Pl.f_listU ?_)
local macro_rules | `(tactic| mright) => `(tactic| with_reducible refine Pl.f_listT ?_)
local macro_rules | `(tactic| mright) => `(tactic| ((with_reducible apply Pl.f_listN); get_elem_tactic_extensible))
local macro_rules | `(tactic| mright) => `(tactic| ((with_reducible apply Pl.f_listL); get_elem_tactic_extensible))
local macro_rules | `(tactic| mright) => `(tactic| ((with_reducible apply Pl.f_listD); get_elem_tactic_extensible))
local macro_rules | `(tactic| mright) => `(tactic| with_reducible refine Pl.f_lenU ?_)
local macro_rules | `(tactic| mright) => `(tactic| with_reducible refine Pl.f_lenT ?_)
local macro_rules | `(tactic| mright) => `(tactic| ((with_reducible apply Pl.f_lenL); get_elem_tactic_extensible))
local macro_rules | `(tactic| mright) => `(tactic| ((with_reducible apply Pl.f_lenD); get_elem_tactic_extensible))
local macro_rules | `(tactic| mright) => `(tactic| with_reducible refine Pl.f_intB ?_)
local macro_rules | `(tactic| mright) => `(tactic| with_reducible refine Pl.f_int ?_)
local macro_rules | `(tactic| mright) => `(tactic| ((with_reducible apply Pl.f_dict); get_elem_tactic_extensible))
local macro_rules | `(tactic| mright) => `(tactic| ((with_reducible apply Pl.f_any); get_elem_tactic_extensible))
local macro_rules | `(tactic| mright) => `(tactic| ((with_reducible apply Pl.f_all); get_elem_tactic_extensible))
local macro_rules | `(tactic| mright) => `(tactic| with_reducible refine Pl.f_abs ?_)
local macro_rules | `(tactic| decreasing_trivial_pre_omega) => `(tactic| ((with_reducible refine Pl.i_lt ?_ ?_); exact Nat.le_of_ble_eq_true rfl))
local macro_rules | `(tactic| decreasing_trivial_pre_omega) => `(tactic| ((with_reducible refine Pl.i_le ?_ ?_); exact Nat.le_of_ble_eq_true rfl))
local macro_rules | `(tactic| decreasing_trivial_pre_omega) => `(tactic| ((with_reducible apply Pl.i_ifdf); (first | assumption | decide +kernel)))
local macro_rules | `(tactic| decreasing_trivial_pre_omega) => `(tactic| ((with_reducible apply Pl.i_ifdt); (first | assumption | exact rfl | decide +kernel)))
local macro_rules | `(tactic| decreasing_trivial_pre_omega) => `(tactic| ((with_reducible apply Pl.o_shl); exact ⟨by decide, by decide, by decide⟩))
local macro_rules | `(tactic| decreasing_trivial_pre_omega) => `(tactic| ((with_reducible apply Pl.o_pow); exact ⟨by decide, by decide, by decide⟩))
local macro_rules | `(tactic| decreasing_trivial_pre_omega) => `(tactic| ((with_reducible apply Pl.o_mul); first | exact Pl.cmul_l (by omega) (by omega) | exact Pl.cmul_r (by omega) (by omega)))
local macro_rules | `(tactic| decreasing_trivial_pre_omega) => `(tactic| ((with_reducible apply Pl.o_fdiv); exact ⟨by first | omega | decide, by first | omega | decide⟩))
local macro_rules | `(tactic| decreasing_trivial_pre_omega) => `(tactic| ((with_reducible apply Pl.o_mod); (first | omega | decide)))
local macro_rules | `(tactic| decreasing_trivial_pre_omega) => `(tactic| ((with_reducible apply Pl.i_iff); (first | exact rfl | assumption | decide +kernel)))
local macro_rules | `(tactic| decreasing_trivial_pre_omega) => `(tactic| ((with_reducible apply Pl.i_ift); (first | exact rfl | assumption | decide +kernel)))
local macro_rules | `(tactic| decreasing_trivial_pre_omega) => `(tactic| ((with_reducible apply Pl.st_fld); get_elem_tactic_extensible; exact Nat.le_of_ble_eq_true rfl))
local macro_rules | `(tactic| decreasing_trivial_pre_omega) => `(tactic| ((with_reducible apply Pl.i_isO); get_elem_tactic_extensible; exact rfl))
local macro_rules | `(tactic| decreasing_trivial_pre_omega) => `(tactic| ((with_reducible apply Pl.i_isF); get_elem_tactic_extensible; exact rfl))
local macro_rules | `(tactic| decreasing_trivial_pre_omega) => `(tactic| ((with_reducible apply Pl.st_lst); get_elem_tactic_extensible; exact rfl))
local macro_rules | `(tactic| decreasing_trivial_pre_omega) => `(tactic| ((with_reducible apply Pl.g_lst); get_elem_tactic_extensible; exact rfl))
local macro_rules | `(tactic| decreasing_trivial_pre_omega) => `(tactic| ((with_reducible apply Pl.x_lst); get_elem_tactic_extensible; exact rfl))
local macro_rules | `(tactic| decreasing_trivial_pre_omega) => `(tactic| ((with_reducible apply Pl.z_asgU2); get_elem_tactic_extensible; exact rfl))
local macro_rules | `(tactic| decreasing_trivial_pre_omega) => `(tactic| ((with_reducible apply Pl.i_isQ); get_elem_tactic_extensible))
local macro_rules | `(tactic| decreasing_trivial_pre_omega) => `(tactic| ((with_reducible apply Pl.i_rcN); get_elem_tactic_extensible))
local macro_rules | `(tactic| decreasing_trivial_pre_omega) => `(tactic| ((with_reducible apply Pl.i_isD); get_elem_tactic_extensible))
local macro_rules | `(tactic| decreasing_trivial_pre_omega) => `(tactic| ((with_reducible apply Pl.i_rcvR); get_elem_tactic_extensible))
local macro_rules | `(tactic| decreasing_trivial_pre_omega) => `(tactic| ((with_reducible apply Pl.i_rcvX); get_elem_tactic_extensible))
local macro_rules | `(tactic| decreasing_trivial_pre_omega) => `(tactic| ((with_reducible apply Pl.i_rcvQ); get_elem_tactic_extensible))
local macro_rules | `(tactic| decreasing_trivial_pre_omega) => `(tactic| ((with_reducible apply Pl.i_rcvP); get_elem_tactic_extensible))
local macro_rules | `(tactic| decreasing_trivial_pre_omega) => `(tactic| ((with_reducible apply Pl.i_rcvE); get_elem_tactic_extensible))
local macro_rules | `(tactic| decreasing_trivial_pre_omega) => `(tactic| ((with_reducible apply Pl.i_rcvA); get_elem_tactic_extensible))
local macro_rules | `(tactic| decreasing_trivial_pre_omega) => `(tactic| ((with_reducible apply Pl.r_lst); get_elem_tactic_extensible))
local macro_rules | `(tactic| decreasing_trivial_pre_omega) => `(tactic| ((with_reducible apply Pl.s_lst); get_elem_tactic_extensible))
local macro_rules | `(tactic| decreasing_trivial_pre_omega) => `(tactic| ((with_reducible apply Pl.y_lst); get_elem_tactic_extensible))
local macro_rules | `(tactic| decreasing_trivial_pre_omega) => `(tactic| ((with_reducible apply Pl.sl_lst); get_elem_tactic_extensible))
local macro_rules | `(tactic| decreasing_trivial_pre_omega) => `(tactic| ((with_reducible apply Pl.tr_dct); get_elem_tactic_extensible))
local macro_rules | `(tactic| decreasing_trivial_pre_omega) => `(tactic| ((with_reducible apply Pl.tr_lst); get_elem_tactic_extensible))
local macro_rules | `(tactic| decreasing_trivial_pre_omega) => `(tactic| ((with_reducible apply Pl.tg_many); exact rfl))
local macro_rules | `(tactic| decreasing_trivial_pre_omega) => `(tactic| ((with_reducible apply Pl.z_asgT2); exact rfl))
local macro_rules | `(tactic| decreasing_trivial_pre_omega) => `(tactic| ((with_reducible apply Pl.i_part1); exact rfl))
local macro_rules | `(tactic| decreasing_trivial_pre_omega) => `(tactic| with_reducible refine Pl.i_ifn ?_)
local macro_rules | `(tactic| decreasing_trivial_pre_omega) => `(tactic| with_reducible refine Pl.tg_one ?_)
local macro_rules | `(tactic| decreasing_trivial_pre_omega) => `(tactic| with_reducible refine Pl.s_dtp ?_)
local macro_rules | `(tactic| decreasing_trivial_pre_omega) => `(tactic| with_reducible refine Pl.y_dtp ?_)
local macro_rules | `(tactic| decreasing_trivial_pre_omega) => `(tactic| with_reducible refine Pl.tr_dtp ?_)
local macro_rules | `(tactic| decreasing_trivial_pre_omega) => `(tactic| with_reducible refine Pl.i_isT ?_)
local macro_rules | `(tactic| decreasing_trivial_pre_omega) => `(tactic| with_reducible refine Pl.s_rol ?_)
local macro_rules | `(tactic| decreasing_trivial_pre_omega) => `(tactic| with_reducible refine Pl.s_tup ?_)
local macro_rules | `(tactic| decreasing_trivial_pre_omega) => `(tactic| with_reducible refine Pl.w_rng2 ?_)
local macro_rules | `(tactic| decreasing_trivial_pre_omega) => `(tactic| with_reducible refine Pl.w_rng ?_)
local macro_rules | `(tactic| decreasing_trivial_pre_omega) => `(tactic| with_reducible refine Pl.w_enum ?_)
local macro_rules | `(tactic| decreasing_trivial_pre_omega) => `(tactic| with_reducible refine Pl.r_dtp ?_)
local macro_rules | `(tactic| decreasing_trivial_pre_omega) => `(tactic| with_reducible refine Pl.r_tup ?_)
local macro_rules | `(tactic| decreasing_trivial_pre_omega) => `(tactic| with_reducible refine Pl.w_rev ?_)
local macro_rules | `(tactic| decreasing_trivial_pre_omega) => `(tactic| with_reducible refine Pl.zi_dd ?_)
local macro_rules | `(tactic| decreasing_trivial_pre_omega) => `(tactic| with_reducible refine Pl.zi_td ?_)
local macro_rules | `(tactic| decreasing_trivial_pre_omega) => `(tactic| with_reducible refine Pl.zi_dt ?_)
local macro_rules | `(tactic| decreasing_trivial_pre_omega) => `(tactic| with_reducible refine Pl.zi_tt ?_)
local macro_rules | `(tactic| decreasing_trivial_pre_omega) => `(tactic| with_reducible refine Pl.w_zip ?_)
local macro_rules | `(tactic| decreasing_trivial_pre_omega) => `(tactic| with_reducible refine Pl.w_istr ?_)
local macro_rules | `(tactic| decreasing_trivial_pre_omega) => `(tactic| with_reducible refine Pl.w_seq ?_)
local macro_rules | `(tactic| decreasing_trivial_pre_omega) => `(tactic| with_reducible refine Pl.y_tup ?_)
local macro_rules | `(tactic| decreasing_trivial_pre_omega) => `(tactic| with_reducible refine Pl.y_str ?_)
local macro_rules | `(tactic| decreasing_trivial_pre_omega) => `(tactic| with_reducible refine Pl.y_int ?_)
local macro_rules | `(tactic| decreasing_trivial_pre_omega) => `(tactic| with_reducible refine Pl.y_bl ?_)
local macro_rules | `(tactic| decreasing_trivial_pre_omega) => `(tactic| with_reducible refine Pl.y_non ?_)
local macro_rules | `(tactic| decreasing_trivial_pre_omega) => `(tactic| with_reducible refine Pl.sl_tup ?_)
local macro_rules | `(tactic| decreasing_trivial_pre_omega) => `(tactic| with_reducible refine Pl.tr_non ?_)
local macro_rules | `(tactic| decreasing_trivial_pre_omega) => `(tactic| with_reducible refine Pl.tr_tup ?_)
local macro_rules | `(tactic| decreasing_trivial_pre_omega) => `(tactic| with_reducible refine Pl.tr_int ?_)
local macro_rules | `(tactic| decreasing_trivial_pre_omega) => `(tactic| with_reducible refine Pl.tr_bl ?_)
local macro_rules | `(tactic| decreasing_trivial_pre_omega) => `(tactic| with_reducible refine Pl.eq_bl ?_)
local macro_rules | `(tactic| decreasing_trivial_pre_omega) => `(tactic| with_reducible refine Pl.c_nin ?_)
local macro_rules | `(tactic| decreasing_trivial_pre_omega) => `(tactic| with_reducible refine Pl.c_in ?_)
local macro_rules | `(tactic| decreasing_trivial_pre_omega) => `(tactic| with_reducible refine Pl.vo_2 ?_)
local macro_rules | `(tactic| decreasing_trivial_pre_omega) => `(tactic| with_reducible refine Pl.vo_1 ?_)
local macro_rules | `(tactic| decreasing_trivial_pre_omega) => `(tactic| with_reducible refine Pl.va_2 ?_)
local macro_rules | `(tactic| decreasing_trivial_pre_omega) => `(tactic| with_reducible refine Pl.va_1 ?_)
local macro_rules | `(tactic| decreasing_trivial_pre_omega) => `(tactic| with_reducible refine Pl.i_part0 ?_)
local macro_rules | `(tactic| decreasing_trivial_pre_omega) => `(tactic| with_reducible refine Pl.i_exII ?_)
local macro_rules | `(tactic| decreasing_trivial_pre_omega) => `(tactic| with_reducible refine Pl.i_exI ?_)
local macro_rules | `(tactic| decreasing_trivial_pre_omega) => `(tactic| with_reducible refine Pl.i_exB ?_)
local macro_rules | `(tactic| decreasing_trivial_pre_omega) => `(tactic| with_reducible refine Pl.i_bW ?_)
local macro_rules | `(tactic| decreasing_trivial_pre_omega) => `(tactic| with_reducible refine Pl.i_neg2 ?_)
local macro_rules | `(tactic| decreasing_trivial_pre_omega) => `(tactic| with_reducible refine Pl.ta_1 ?_)
local macro_rules | `(tactic| decreasing_trivial_pre_omega) => `(tactic| with_reducible refine Pl.ta_2 ?_)
local macro_rules | `(tactic| decreasing_trivial_pre_omega) => `(tactic| with_reducible refine Pl.to_1 ?_)
local macro_rules | `(tactic| decreasing_trivial_pre_omega) => `(tactic| with_reducible refine Pl.to_2 ?_)
local macro_rules | `(tactic| decreasing_trivial_pre_omega) => `(tactic| with_reducible refine Pl.c_ge ?_)
local macro_rules | `(tactic| decreasing_trivial_pre_omega) => `(tactic| with_reducible refine Pl.c_gt ?_)
local macro_rules | `(tactic| decreasing_trivial_pre_omega) => `(tactic| with_reducible refine Pl.c_le ?_)
local macro_rules | `(tactic| decreasing_trivial_pre_omega) => `(tactic| with_reducible refine Pl.c_lt ?_)
local macro_rules | `(tactic| decreasing_trivial_pre_omega) => `(tactic| with_reducible refine Pl.eq_str ?_)
local macro_rules | `(tactic| decreasing_trivial_pre_omega) => `(tactic| with_reducible refine Pl.eq_int ?_)
local macro_rules | `(tactic| decreasing_trivial_pre_omega) => `(tactic| with_reducible refine Pl.c_ne ?_)
local macro_rules | `(tactic| decreasing_trivial_pre_omega) => `(tactic| with_reducible refine Pl.c_eq ?_)
local macro_rules | `(tactic| decreasing_trivial_pre_omega) => `(tactic| with_reducible refine Pl.o_sub ?_)
local macro_rules | `(tactic| decreasing_trivial_pre_omega) => `(tactic| with_reducible refine Pl.o_add ?_)
local macro_rules | `(tactic| decreasing_trivial_pre_omega) => `(tactic| with_reducible refine Pl.i_nil ?_)
local macro_rules | `(tactic| decreasing_trivial_pre_omega) => `(tactic| with_reducible refine Pl.i_cons ?_)
local macro_rules | `(tactic| decreasing_trivial_pre_omega) => `(tactic| ((with_reducible apply Pl.x_dtp); exact rfl))
local macro_rules | `(tactic| decreasing_trivial_pre_omega) => `(tactic| ((with_reducible apply Pl.x_tup); exact rfl))
local macro_rules | `(tactic| decreasing_trivial_pre_omega) => `(tactic| ((with_reducible refine Pl.is_b ?_); mright))
local macro_rules | `(tactic| decreasing_trivial_pre_omega) => `(tactic| ((with_reducible refine Pl.is_t ?_); array_mem_dec))
local macro_rules | `(tactic| decreasing_trivial_pre_omega) => `(tactic| ((with_reducible refine Pl.is_s ?_); mleft))
local macro_rules | `(tactic| decreasing_trivial_pre_omega) => `(tactic| ((with_reducible refine Pl.is_e ?_); array_get_dec))
/-! the draws -/
namespace Pl
open PySem L2
/-- a row of draws: where it lies, where its script lies -/
def Dr (M : Hm) (p : Addr × Addr) : Prop := ∃ (cells : List Int) (a b c : Int), p.2 ≠ p.1 ∧ M p.1 = some (.lst [.ref p.2, .int a, .int b, .int c]) ∧ M p.2 = some (.lst (cells.map U.int)) ∧ 0 ≤ a
def bDraw : S := (.seq (.ifs (.cmp .gt (.ix (.var 0) (.int 2)) (.int 0)) (.seq (.asg 2 (.ix (.var 0) (.int 2))) (.seq (.setIx (.var 0) (.int 2) (.bin .fdiv (.var 2) (.var 1))) (.seq (.ret (.bin .mod (.blt .int (.cons (.var 2) .nil)) (.var 1))) .skip))) .skip) (.seq (.asg 3 (.int 0)) (.seq (.ifs (.cmp .lt (.ix (.var 0) (.int 1)) (.blt .len (.cons (.ix (.var 0) (.int 0)) .nil))) (.seq (.asg 4 (.ix (.ix (.var 0) (.int 0)) (.ix (.var 0) (.int 1)))) (.seq (.asg 3 (.bin .add (.bin .mul (.int 2) (.blt .abs (.cons (.var 4) .nil))) (.blt .int (.cons (.cmp .lt (.var 4) (.int 0)) .nil)))) .skip)) .skip) (.seq (.augIx (.var 0) (.int 1) .add (.int 1)) (.seq (.ifs (.cmp .ge (.var 3) (.bin .mul (.int 2) (.bin .pow (.int 10) (.int 18)))) (.seq (.asg 2 (.bin .mod (.blt .int (.cons (.bin .fdiv (.var 3) (.int 2)) .nil)) (.bin .shl (.int 1) (.int 6000)))) (.seq (.setIx (.var 0) (.int 2) (.bin .fdiv (.var 2) (.var 1))) (.seq (.ret (.bin .mod (.blt .int (.cons (.var 2) .nil)) (.var 1))) .skip))) .skip) (.seq (.setIx (.var 0) (.int 3) (.bin .mod (.blt .int (.cons (.bin .add (.bin .add (.bin .add (.bin .mul (.ix (.var 0) (.int 3)) (.int 48271)) (.bin .mul (.bin .mod (.blt .int (.cons (.var 3) .nil)) (.int 2147483629)) (.int 16807))) (.bin .mul (.ix (.var 0) (.int 1)) (.int 69621))) (.int 11)) .nil)) (.int 2147483647))) (.seq (.ret (.bin .mod (.blt .int (.cons (.bin .fdiv (.ix (.var 0) (.int 3)) (.int 16)) .nil)) (.var 1))) .skip)))))))
theorem atI_map {l : List Int} {i : Int} (h0 : 0 ≤ i) (h : i < l.length) : ∃ x, atI (l.map U.int) i = some (.int x) := by
  unfold atI ixN
  rw [if_pos h0]
  have hn : i.toNat < l.length := by omega
  refine ⟨l[i.toNat], ?_⟩
  rw [if_pos (by rw [List.length_map]; exact h)]
  simp [hn]
theorem draw_ok {C : CE} {nx bk ct : SU → Hm → Prop} {rt : QU} {M : Hm} {p : Addr × Addr} {many : Int} (h : Dr M p) (h1 : 0 < many) (h2 : many < 1073741824)
    (hq : ∀ r M', 0 ≤ r → r < many → Dr M' p → (∀ a, a ≠ p.1 → M' a = M a) → rt (.int r) M') : wS C bDraw ⟨nx, rt, bk, ct⟩ (startU 5 [.ref p.1, .int many]) M := by
  obtain ⟨cells, a, b, c, hn, hp, hc, ha⟩ := h
  have many_ne : many ≠ 0 := by omega
  have fin : ∀ (a b c : Int) (x : Int), 0 ≤ a → rt (.int (x % many)) (um M p.1 (.lst [.ref p.2, .int a, .int b, .int c])) := fun a b c x ha =>
    hq _ _ (Int.emod_nonneg _ many_ne) (Int.emod_lt_of_pos _ h1) ⟨cells, a, b, c, hn, um_same, by rw [um_ne hn]; exact hc, ha⟩ (fun a h => um_ne h)
  unfold bDraw
  (repeat decreasing_trivial_pre_omega)
  refine i_ifd (fun hb => ?_) (fun hb => ?_)
  · (repeat decreasing_trivial_pre_omega)
    exact fin _ _ _ _ ha
  · (repeat decreasing_trivial_pre_omega)
    refine i_ifd (fun hi => ?_) (fun hi => ?_)
    · (repeat decreasing_trivial_pre_omega)
      obtain ⟨x, hx⟩ := atI_map ha (by simpa using hi)
      refine x_lst hc hx ?_
      (repeat decreasing_trivial_pre_omega)
      refine i_ifd (fun hs => ?_) (fun hs => ?_)
      · (repeat decreasing_trivial_pre_omega)
        simp only [um_um]
        exact fin _ _ _ _ (by omega)
      · (repeat decreasing_trivial_pre_omega)
        simp only [um_um]
        exact fin _ _ _ _ (by omega)
    · (repeat decreasing_trivial_pre_omega)
      simp only [um_um]
      exact fin _ _ _ _ (by omega)
/-- what is not the draws' own stays -/
def Fr (p : Addr × Addr) (M M' : Hm) : Prop := ∀ a, a ≠ p.1 → ∀ o, M a = some o → M' a = some o
theorem Fr.refl (p : Addr × Addr) (M : Hm) : Fr p M M := fun _ _ _ h => h
theorem Fr.trans {p : Addr × Addr} {A B D : Hm} (h : Fr p A B) (g : Fr p B D) : Fr p A D := fun a n o e => g a n o (h a n o e)
theorem Fr.at_ {p : Addr × Addr} {a : Addr} {A B : Hm} {r : MO} (h : Fr p A B) (n : a ≠ p.1) (e : A a = some r) : B a = some r := h a n r e
theorem Sub.fr {p : Addr × Addr} {A B : Hm} (h : Sub A B) : Fr p A B := fun a _ o e => h a o e
theorem Fr.of_eq {p : Addr × Addr} {A B : Hm} (h : ∀ a, a ≠ p.1 → B a = A a) : Fr p A B := fun a n o e => (h a n).trans e
theorem Dr.mem {M : Hm} {p : Addr × Addr} (h : Dr M p) : ∃ o, M p.1 = some o := by
  obtain ⟨cells, a, b, c, hn, hp, hc, ha⟩ := h
  exact ⟨_, hp⟩
theorem Dr.ne {M : Hm} {p : Addr × Addr} {a : Addr} (h : Dr M p) (ha : M a = none) : a ≠ p.1 := by
  obtain ⟨o, e⟩ := h.mem
  exact ne_of_old' e ha
/-- a thing of its own does not touch the draws -/
theorem Dr.upd {M : Hm} {p : Addr × Addr} {a : Addr} {o : MO} (h : Dr M p) (ha : M a = none) : Dr (um M a o) p := by
  have hne := h.ne ha
  obtain ⟨cells, i, b, c, hn, hp, hc, hi⟩ := h
  exact ⟨cells, i, b, c, hn, um_old hp ha, um_old hc ha, hi⟩
theorem Dr.sub {M M' : Hm} {p : Addr × Addr} (h : Dr M p) (s : Sub M M') : Dr M' p := by
  obtain ⟨cells, i, b, c, hn, hp, hc, hi⟩ := h
  exact ⟨cells, i, b, c, hn, s _ _ hp, s _ _ hc, hi⟩
def DrawC (C : CE) (f : Nat) : Prop := ∀ (M : Hm) (p : Addr × Addr) (many : Int) (Q : QU), Dr M p → 0 < many → many < 1073741824 →
  (∀ r M', 0 ≤ r → r < many → Dr M' p → Fr p M M' → Q (.int r) M') → C f [.ref p.1, .int many] M Q
theorem Dr.ne2 {M : Hm} {p : Addr × Addr} {a : Addr} (h : Dr M p) (ha : M a = none) : a ≠ p.2 := by
  obtain ⟨cells, i, b, c, hn, hp, hc, hi⟩ := h
  exact ne_of_old' hc ha
/-- a thing that is not the draws' own may change -/
theorem Dr.upd2 {M : Hm} {p : Addr × Addr} {a : Addr} {o : MO} (h : Dr M p) (h1 : a ≠ p.1) (h2 : a ≠ p.2) : Dr (um M a o) p := by
  obtain ⟨cells, i, b, c, hn, hp, hc, hi⟩ := h
  exact ⟨cells, i, b, c, hn, um_oth h1.symm hp, um_oth h2.symm hc, hi⟩
theorem Fr.non {p : Addr × Addr} {A B : Hm} {a : Addr} (h : Fr p A B) (n : a ≠ p.1) (e : B a = none) : A a = none := by
  cases q : A a with
  | none => rfl
  | some o => rw [h a n o q] at e; cases e
theorem Fr.upd {p : Addr × Addr} {A B : Hm} {a : Addr} {o : MO} (h : Fr p A B) (e : A a = none) : Fr p A (um B a o) := fun b n o' q => by
  rw [um_ne (ne_of_old q e)]
  exact h b n o' q
end Pl

set_option maxHeartbeats 400000
/-! one of a row; what the laws' own parts share -/
namespace Pl
open PySem L2
def bPick (f : Nat) : S := (.seq (.ret (.ix (.var 1) (.call f (.cons (.var 0) (.cons (.blt .len (.cons (.var 1) .nil)) .nil))))) .skip)
def RowAt (M : Hm) (p : Addr × Addr) (row : U) (us : List U) : Prop := row = .tup us ∨ ∃ r, row = .ref r ∧ r ≠ p.1 ∧ M r = some (.lst us)
theorem atI_nn {α : Type} {l : List α} {r : Int} (h0 : 0 ≤ r) (h : r < l.length) : ∃ x, atI l r = some x ∧ x ∈ l := by
  have hn : r.toNat < l.length := by omega
  refine ⟨l[r.toNat], ?_, List.getElem_mem hn⟩
  unfold atI ixN
  rw [if_pos h0, if_pos h]
  show l[r.toNat]? = some l[r.toNat]
  exact List.getElem?_eq_getElem hn
theorem pick_ok {C : CE} {f : Nat} (hd : DrawC C f) {nx bk ct : SU → Hm → Prop} {rt : QU} {M : Hm} {p : Addr × Addr} {row : U} {us : List U} (h : Dr M p) (hr : RowAt M p row us) (h1 : us ≠ []) (h2 : us.length < 1073741824)
    (hq : ∀ x M', x ∈ us → Dr M' p → Fr p M M' → rt x M') : wS C (bPick f) ⟨nx, rt, bk, ct⟩ (startU 2 [.ref p.1, row]) M := by
  have hl : 0 < us.length := List.length_pos_iff.mpr h1
  unfold bPick
  (repeat decreasing_trivial_pre_omega)
  rcases hr with rfl | ⟨r, rfl, hn, hm⟩
  · (repeat decreasing_trivial_pre_omega)
    refine hd _ _ _ _ h (by omega) (by omega) fun r M' r0 r1 d' fr => ?_
    obtain ⟨x, hx, hxm⟩ := atI_nn r0 r1
    refine x_tup hx ?_
    exact hq _ _ hxm d' fr
  · (repeat decreasing_trivial_pre_omega)
    refine hd _ _ _ _ h (by omega) (by omega) fun i M' r0 r1 d' fr => ?_
    obtain ⟨x, hx, hxm⟩ := atI_nn r0 r1
    refine x_lst (fr.at_ hn hm) hx ?_
    exact hq _ _ hxm d' fr
def PickC (C : CE) (f : Nat) : Prop := ∀ (M : Hm) (p : Addr × Addr) (row : U) (us : List U) (Q : QU), Dr M p → RowAt M p row us → us ≠ [] → us.length < 1073741824 →
  (∀ x M', x ∈ us → Dr M' p → Fr p M M' → Q x M') → C f [.ref p.1, row] M Q
theorem DrawC.lt {C : CE} {f : Nat} (h : DrawC C f) (M : Hm) (p : Addr × Addr) (many : Nat) (Q : QU) (d : Dr M p) (h0 : 0 < many) (h1 : many < 1073741824) (hq : ∀ (r : Nat) M', r < many → Dr M' p → Fr p M M' → Q (.int r) M') : C f [.ref p.1, .int many] M Q :=
  h M p many Q d (by omega) (by omega) fun r M' r0 r1 d' fr => by
    have e : r = ((r.toNat : Nat) : Int) := by omega
    rw [e]
    exact hq r.toNat M' (by omega) d' fr
theorem atI_nat {α : Type} {l : List α} {i : Nat} (h : i < l.length) : atI l (i : Int) = some l[i] := by
  unfold atI ixN
  rw [if_pos (by omega), if_pos (by omega)]
  show l[((i : Nat) : Int).toNat]? = _
  rw [Int.toNat_natCast]
  exact List.getElem?_eq_getElem h
theorem rngU_nat (n : Nat) : rngU 0 (n : Int) = (List.range n).map fun i => .int (i : Nat) := by
  unfold rngU
  rw [Int.sub_zero, Int.toNat_natCast]
  refine List.map_congr_left fun i _ => ?_
  rw [Int.zero_add]
def bBegin : S := (.seq (.ret (.lst (.cons (.comp [("cell", 1)] (.one 1) (.iSeq (.var 0)) .nil (.blt .int (.cons (.var 1) .nil))) (.cons (.int 0) (.cons (.int 0) (.cons (.int 7) .nil)))))) .skip)
theorem begin_ok {C : CE} {nx bk ct : SU → Hm → Prop} {rt : QU} {M : Hm} {ns : List Int} (hl : ns.length ≤ 63) (hq : ∀ (p : Addr × Addr) M', Sub M M' → Dr M' p → rt (.ref p.1) M') : wS C bBegin ⟨nx, rt, bk, ct⟩ (startU 2 [.rol (ns.map U.int)]) M := by
  unfold bBegin
  (repeat decreasing_trivial_pre_omega)
  refine compL_by (fun don rest acc M' => M' = M ∧ acc = don.map U.int) ns ⟨rfl, rfl⟩ ?_ ?_
  · intro don x rest acc M' k e ⟨e1, e2⟩ hk
    subst e1 e2
    (repeat decreasing_trivial_pre_omega)
    refine hk _ _ trivial (fun _ => ?_) ⟨rfl, by simp⟩
    have : don.length ≤ ns.length := by rw [← e]; simp
    simp [LIM]
    omega
  · intro acc M' ⟨e1, e2⟩
    subst e1 e2
    (repeat decreasing_trivial_pre_omega)
    intro q hq0
    (repeat decreasing_trivial_pre_omega)
    intro p hp0
    refine hq (p, q) _ ?_ ⟨ns, 0, 0, 7, ?_, um_same, ?_, by decide⟩
    · exact sub_um (sub_um (Sub.refl _) hq0) (um_none hp0)
    · intro e; have e : q = p := e; subst e; rw [um_same] at hp0; cases hp0
    · exact um_old um_same hp0
/-! dicts as rows of pairs -/
theorem cutU_take {α : Type} (l : List α) (n : Nat) : cutU l none (some (n : Int)) = l.take n := by
  unfold cutU HT.sIx
  simp only [List.drop_zero, Nat.sub_zero]
  rw [if_neg (by omega), Int.toNat_natCast]
  rcases Nat.le_total n l.length with h | h
  · rw [Nat.min_eq_left h]
  · rw [Nat.min_eq_right h, List.take_length, List.take_of_length_le h]
theorem okL_of {l : List U} (h : ∀ x ∈ l, x.ok 59 = true) : okL l = true := List.all_eq_true.mpr h
end Pl

set_option maxHeartbeats 4000000
/-! the text's small syntax, its check, its head: printed by wip/gen.py -/
namespace K02
open PySem L2 Pl
/-- is_int -/
def b0 : S := (.seq (.ret (.ands (.cons (.isinst (.var 0) "int") (.cons (.not (.isinst (.var 0) "bool")) .nil)))) .skip)
def d0 : Df := { name := "is_int", ps := ["thing"], N := ["thing"], b := b0 }
/-- is_name -/
def b1 : S := (.seq (.ifs (.ors (.cons (.not (.isinst (.var 0) "str")) (.cons (.not (.chain .le .le (.int 1) (.blt .len (.cons (.var 0) .nil)) (.int 8))) (.cons (.cmp .isin (.var 0) (.gdat "RESERVED" (.dtp [(.str "kinds"), (.str "sources"), (.str "rule"), (.str "form"), (.str "see"), (.str "ask"), (.str "put"), (.str "follow"), (.str "done"), (.str "gone"), (.str "else"), (.str "end")]))) .nil)))) (.seq (.ret (.bl false)) .skip) .skip) (.seq (.ret (.blt .all (.cons (.comp [("letter", 1)] (.one 1) (.iStr (.var 0)) .nil (.cmp .isin (.var 1) (.gstr "LETTERS" "abcdefghijklmnopqrstuvwxyz"))) .nil))) .skip))
def d1 : Df := { name := "is_name", ps := ["thing"], N := ["thing", "letter"], b := b1 }
/-- is_put_content -/
def b2 : S := (.seq (.ret (.ands (.cons (.call 0 (.cons (.var 1) .nil)) (.cons (.chain .le .lt (.int 0) (.var 1) (.var 0)) .nil)))) .skip)
def d2 : Df := { name := "is_put_content", ps := ["kinds", "thing"], N := ["kinds", "thing"], b := b2 }
/-- are_names -/
def b3 : S := (.seq (.ifs (.ors (.cons (.not (.isinst (.var 0) "tuple")) (.cons (.not (.chain .le .le (.var 1) (.blt .len (.cons (.var 0) .nil)) (.var 2))) .nil))) (.seq (.ret (.bl false)) .skip) .skip) (.seq (.ifs (.not (.blt .all (.cons (.comp [("name", 3)] (.one 3) (.iSeq (.var 0)) .nil (.call 1 (.cons (.var 3) .nil))) .nil))) (.seq (.ret (.bl false)) .skip) .skip) (.seq (.ret (.cmp .eq (.blt .len (.cons (.sset (.var 0)) .nil)) (.blt .len (.cons (.var 0) .nil)))) .skip)))
def d3 : Df := { name := "are_names", ps := ["thing", "least", "most"], N := ["thing", "least", "most", "name"], b := b3 }
/-- next_bodies -/
def b4 : S := (.seq (.ifs (.ors (.cons (.not (.isinst (.var 2) "tuple")) (.cons (.cmp .eq (.blt .len (.cons (.var 2) .nil)) (.int 0)) .nil))) (.seq (.ret .non) .skip) .skip) (.seq (.asg 3 (.ix (.var 2) (.int 0))) (.seq (.ifs (.not (.isinst (.var 3) "str")) (.seq (.ret .non) .skip) .skip) (.seq (.ifs (.ands (.cons (.cmp .eq (.var 3) (.str "done")) (.cons (.cmp .eq (.blt .len (.cons (.var 2) .nil)) (.int 1)) .nil))) (.seq (.ret (.tup .nil)) .skip) .skip) (.seq (.ifs (.ands (.cons (.cmp .eq (.var 3) (.str "put")) (.cons (.cmp .eq (.blt .len (.cons (.var 2) .nil)) (.int 4)) (.cons (.call 1 (.cons (.ix (.var 2) (.int 1)) .nil)) (.cons (.call 2 (.cons (.var 0) (.cons (.ix (.var 2) (.int 2)) .nil))) .nil))))) (.seq (.ret (.tup (.cons (.ix (.var 2) (.int 3)) .nil))) .skip) .skip) (.seq (.ifs (.ands (.cons (.cmp .eq (.var 3) (.str "ask")) (.cons (.cmp .eq (.blt .len (.cons (.var 2) .nil)) (.int 3)) (.cons (.call 1 (.cons (.ix (.var 2) (.int 1)) .nil)) .nil)))) (.seq (.ret (.ite (.ors (.cons (.isN (.var 1)) (.cons (.cmp .isin (.ix (.var 2) (.int 1)) (.var 1)) .nil))) (.tup (.cons (.ix (.var 2) (.int 2)) .nil)) .non)) .skip) .skip) (.seq (.ifs (.ands (.cons (.cmp .eq (.var 3) (.str "see")) (.cons (.cmp .eq (.blt .len (.cons (.var 2) .nil)) (.int 3)) (.cons (.call 1 (.cons (.ix (.var 2) (.int 1)) .nil)) .nil)))) (.seq (.ifs (.ands (.cons (.isinst (.ix (.var 2) (.int 2)) "tuple") (.cons (.cmp .eq (.blt .len (.cons (.ix (.var 2) (.int 2)) .nil)) (.bin .add (.var 0) (.int 1))) .nil))) (.seq (.ret (.ix (.var 2) (.int 2))) .skip) .skip) .skip) .skip) (.seq (.ret .non) .skip))))))))
def d4 : Df := { name := "next_bodies", ps := ["kinds", "rules", "body"], N := ["kinds", "rules", "body", "word"], b := b4 }
/-- check_body -/
def b5 : S := (.seq (.asg 3 (.lst (.cons (.tup (.cons (.var 2) (.cons (.int 1) .nil))) .nil))) (.seq (.asg 4 (.int 0)) (.seq (.whl (.var 3) (.seq (.asgT [5, 6] (.mth .pop (.var 3) .nil)) (.seq (.asg 4 (.bin .add (.var 4) (.int 1))) (.seq (.ifs (.ors (.cons (.cmp .gt (.var 4) (.gint "MOST_NODES" (120))) (.cons (.cmp .gt (.var 6) (.gint "MOST_PATH" (16))) .nil))) (.seq (.ret (.bl false)) .skip) .skip) (.seq (.asg 7 (.call 4 (.cons (.var 0) (.cons (.var 1) (.cons (.var 5) .nil))))) (.seq (.ifs (.isN (.var 7)) (.seq (.ret (.bl false)) .skip) .skip) (.seq (.for_ (.one 8) (.iSeq (.var 7)) (.seq (.expr (.mth .append (.var 3) (.cons (.tup (.cons (.var 8) (.cons (.bin .add (.var 6) (.int 1)) .nil))) .nil))) .skip)) .skip))))))) (.seq (.ret (.bl true)) .skip))))
def d5 : Df := { name := "check_body", ps := ["kinds", "rules", "body"], N := ["kinds", "rules", "body", "left", "nodes", "one", "depth", "parts", "part"], b := b5 }
/-- limits_of -/
def b6 : S := (.seq (.asg 1 (.lst (.cons (.tup (.cons (.var 0) (.cons (.int 1) .nil))) .nil))) (.seq (.asg 2 (.int 0)) (.seq (.asg 3 (.int 0)) (.seq (.whl (.var 1) (.seq (.asgT [4, 5] (.mth .pop (.var 1) .nil)) (.seq (.asg 2 (.bin .add (.var 2) (.int 1))) (.seq (.asg 3 (.blt .max (.cons (.var 3) (.cons (.var 5) .nil)))) (.seq (.ifs (.cmp .eq (.ix (.var 4) (.int 0)) (.str "see")) (.seq (.for_ (.one 6) (.iSeq (.ix (.var 4) (.int 2))) (.seq (.expr (.mth .append (.var 1) (.cons (.tup (.cons (.var 6) (.cons (.bin .add (.var 5) (.int 1)) .nil))) .nil))) .skip)) .skip) (.seq (.ifs (.cmp .ne (.ix (.var 4) (.int 0)) (.str "done")) (.seq (.expr (.mth .append (.var 1) (.cons (.tup (.cons (.ix (.var 4) (.bin .sub (.blt .len (.cons (.var 4) .nil)) (.int 1))) (.cons (.bin .add (.var 5) (.int 1)) .nil))) .nil))) .skip) .skip) .skip)) .skip))))) (.seq (.ret (.tup (.cons (.var 2) (.cons (.var 3) .nil)))) .skip)))))
def d6 : Df := { name := "limits_of", ps := ["body"], N := ["body", "left", "nodes", "longest", "one", "depth", "part"], b := b6 }
/-- nodes_of -/
def b7 : S := (.seq (.ret (.ix (.call 6 (.cons (.var 0) .nil)) (.int 0))) .skip)
def d7 : Df := { name := "nodes_of", ps := ["body"], N := ["body"], b := b7 }
/-- are_rules -/
def b8 : S := (.seq (.ifs (.ors (.cons (.not (.isinst (.var 0) "tuple")) (.cons (.not (.chain .le .le (.int 1) (.blt .len (.cons (.var 0) .nil)) (.gint "MOST_RULES" (8)))) .nil))) (.seq (.ret (.bl false)) .skip) .skip) (.seq (.for_ (.one 1) (.iSeq (.var 0)) (.seq (.ifs (.ors (.cons (.not (.isinst (.var 1) "tuple")) (.cons (.cmp .ne (.blt .len (.cons (.var 1) .nil)) (.int 2)) .nil))) (.seq (.ret (.bl false)) .skip) .skip) .skip)) (.seq (.ret (.call 3 (.cons (.blt .tuple (.cons (.comp [("pair", 1)] (.one 1) (.iSeq (.var 0)) .nil (.ix (.var 1) (.int 0))) .nil)) (.cons (.int 1) (.cons (.gint "MOST_RULES" (8)) .nil))))) .skip)))
def d8 : Df := { name := "are_rules", ps := ["thing"], N := ["thing", "pair"], b := b8 }
/-- is_book -/
def b9 : S := (.seq (.ifs (.ors (.cons (.not (.isinst (.var 0) "tuple")) (.cons (.cmp .ne (.blt .len (.cons (.var 0) .nil)) (.int 3)) .nil))) (.seq (.ret (.bl false)) .skip) .skip) (.seq (.asgT [1, 2, 3] (.var 0)) (.seq (.ifs (.ors (.cons (.not (.call 0 (.cons (.var 1) .nil))) (.cons (.not (.chain .le .le (.int 1) (.var 1) (.gint "MOST_KINDS" (4)))) .nil))) (.seq (.ret (.bl false)) .skip) .skip) (.seq (.ifs (.ors (.cons (.not (.call 3 (.cons (.var 2) (.cons (.int 0) (.cons (.gint "MOST_SOURCES" (5)) .nil))))) (.cons (.not (.call 8 (.cons (.var 3) .nil))) .nil))) (.seq (.ret (.bl false)) .skip) .skip) (.seq (.asg 4 (.blt .tuple (.cons (.comp [("pair", 5)] (.one 5) (.iSeq (.var 3)) .nil (.ix (.var 5) (.int 0))) .nil))) (.seq (.ret (.blt .all (.cons (.comp [("pair", 5)] (.one 5) (.iSeq (.var 3)) .nil (.call 5 (.cons (.var 1) (.cons (.var 4) (.cons (.ix (.var 5) (.int 1)) .nil))))) .nil))) .skip))))))
def d9 : Df := { name := "is_book", ps := ["thing"], N := ["thing", "kinds", "sources", "rules", "names", "pair"], b := b9 }
/-- body_of -/
def b10 : S := (.seq (.for_ (.many [2, 3]) (.iSeq (.ix (.var 0) (.int 2))) (.seq (.ifs (.cmp .eq (.var 2) (.var 1)) (.seq (.ret (.var 3)) .skip) .skip) .skip)) (.seq (.raise1 "NoRule" "name" (.var 1)) .skip))
def d10 : Df := { name := "body_of", ps := ["book", "rule"], N := ["book", "rule", "name", "body"], b := b10 }
/-- with_body -/
def b11 : S := (.seq (.expr (.callX 10 (.cons (.var 0) (.cons (.var 1) .nil)))) (.seq (.asg 3 (.blt .tuple (.cons (.comp [("name", 4), ("old", 5)] (.many [4, 5]) (.iSeq (.ix (.var 0) (.int 2))) .nil (.tup (.cons (.var 4) (.cons (.ite (.cmp .eq (.var 4) (.var 1)) (.var 2) (.var 5)) .nil)))) .nil))) (.seq (.asg 6 (.tup (.cons (.ix (.var 0) (.int 0)) (.cons (.ix (.var 0) (.int 1)) (.cons (.var 3) .nil))))) (.seq (.ifs (.not (.call 9 (.cons (.var 6) .nil))) (.seq (.raise1 "BadBody" "rule" (.var 1)) .skip) .skip) (.seq (.ret (.var 6)) .skip)))))
def d11 : Df := { name := "with_body", ps := ["book", "rule", "body"], N := ["book", "rule", "body", "rules", "name", "old", "changed"], b := b11 }
/-- count_worlds -/
def b12 : S := (.seq (.asg 1 (.int 1)) (.seq (.for_ (.one 2) (.iRange (.blt .len (.cons (.ix (.var 0) (.int 1)) .nil))) (.seq (.asg 1 (.bin .mul (.var 1) (.bin .add (.ix (.var 0) (.int 0)) (.int 1)))) .skip)) (.seq (.ret (.var 1)) .skip)))
def d12 : Df := { name := "count_worlds", ps := ["book"], N := ["book", "many", "place"], b := b12 }
/-- worlds -/
def b13 : S := (.seq (.ifs (.cmp .gt (.call 12 (.cons (.var 0) .nil)) (.gint "MOST_WORLDS" (400))) (.seq (.raise1 "TooMany" "limit" (.gint "MOST_WORLDS" (400))) .skip) .skip) (.seq (.asg 1 (.lst (.cons (.tup .nil) .nil))) (.seq (.for_ (.one 2) (.iRange (.blt .len (.cons (.ix (.var 0) (.int 1)) .nil))) (.seq (.asg 1 (.comp2 [("world", 3), ("content", 4)] (.one 3) (.iSeq (.var 1)) (.one 4) (.iRange2 (.neg (.int 1)) (.ix (.var 0) (.int 0))) .nil (.bin .add (.var 3) (.tup (.cons (.var 4) .nil))))) .skip)) (.seq (.ret (.blt .tuple (.cons (.var 1) .nil))) .skip))))
def d13 : Df := { name := "worlds", ps := ["book"], N := ["book", "found", "place", "world", "content"], b := b13 }
/-- _law_begin -/
def b14 : S := (.seq (.ret (.lst (.cons (.comp [("cell", 1)] (.one 1) (.iSeq (.var 0)) .nil (.blt .int (.cons (.var 1) .nil))) (.cons (.int 0) (.cons (.int 0) (.cons (.int 7) .nil)))))) .skip)
def d14 : Df := { name := "_law_begin", ps := ["script"], N := ["script", "cell"], b := b14 }
/-- _law_draw -/
def b15 : S := (.seq (.ifs (.cmp .gt (.ix (.var 0) (.int 2)) (.int 0)) (.seq (.asg 2 (.ix (.var 0) (.int 2))) (.seq (.setIx (.var 0) (.int 2) (.bin .fdiv (.var 2) (.var 1))) (.seq (.ret (.bin .mod (.blt .int (.cons (.var 2) .nil)) (.var 1))) .skip))) .skip) (.seq (.asg 3 (.int 0)) (.seq (.ifs (.cmp .lt (.ix (.var 0) (.int 1)) (.blt .len (.cons (.ix (.var 0) (.int 0)) .nil))) (.seq (.asg 4 (.ix (.ix (.var 0) (.int 0)) (.ix (.var 0) (.int 1)))) (.seq (.asg 3 (.bin .add (.bin .mul (.int 2) (.blt .abs (.cons (.var 4) .nil))) (.blt .int (.cons (.cmp .lt (.var 4) (.int 0)) .nil)))) .skip)) .skip) (.seq (.augIx (.var 0) (.int 1) .add (.int 1)) (.seq (.ifs (.cmp .ge (.var 3) (.bin .mul (.int 2) (.bin .pow (.int 10) (.int 18)))) (.seq (.asg 2 (.bin .mod (.blt .int (.cons (.bin .fdiv (.var 3) (.int 2)) .nil)) (.bin .shl (.int 1) (.int 6000)))) (.seq (.setIx (.var 0) (.int 2) (.bin .fdiv (.var 2) (.var 1))) (.seq (.ret (.bin .mod (.blt .int (.cons (.var 2) .nil)) (.var 1))) .skip))) .skip) (.seq (.setIx (.var 0) (.int 3) (.bin .mod (.blt .int (.cons (.bin .add (.bin .add (.bin .add (.bin .mul (.ix (.var 0) (.int 3)) (.int 48271)) (.bin .mul (.bin .mod (.blt .int (.cons (.var 3) .nil)) (.int 2147483629)) (.int 16807))) (.bin .mul (.ix (.var 0) (.int 1)) (.int 69621))) (.int 11)) .nil)) (.int 2147483647))) (.seq (.ret (.bin .mod (.blt .int (.cons (.bin .fdiv (.ix (.var 0) (.int 3)) (.int 16)) .nil)) (.var 1))) .skip)))))))
def d15 : Df := { name := "_law_draw", ps := ["d", "many"], N := ["d", "many", "found", "size", "cell"], b := b15 }
/-- _law_pick -/
def b16 : S := (.seq (.ret (.ix (.var 1) (.call 15 (.cons (.var 0) (.cons (.blt .len (.cons (.var 1) .nil)) .nil))))) .skip)
def d16 : Df := { name := "_law_pick", ps := ["d", "row"], N := ["d", "row"], b := b16 }
/-- _law_rare -/
def b17 : S := (.seq (.ret (.cmp .eq (.call 15 (.cons (.var 0) (.cons (.var 1) .nil))) (.bin .fdiv (.var 1) (.int 2)))) .skip)
def d17 : Df := { name := "_law_rare", ps := ["d", "many"], N := ["d", "many"], b := b17 }
/-- _law_shuffled -/
def b18 : S := (.seq (.asg 2 (.blt .list (.cons (.var 1) .nil))) (.seq (.asg 3 (.lst .nil)) (.seq (.for_ (.one 4) (.iRange (.blt .len (.cons (.var 2) .nil))) (.seq (.expr (.mth .append (.var 3) (.cons (.mth .popAt (.var 2) (.cons (.call 15 (.cons (.var 0) (.cons (.blt .len (.cons (.var 2) .nil)) .nil))) .nil)) .nil))) .skip)) (.seq (.ret (.var 3)) .skip))))
def d18 : Df := { name := "_law_shuffled", ps := ["d", "row"], N := ["d", "row", "left", "found", "k"], b := b18 }
/-- _law_files -/
def b19 : S := (.seq (.ret (.mth .split (.str "x y z lib gen conf objs tag page table o hdr mainfile ver docs w zz linkmap au cc") (.cons (.str " ") .nil))) .skip)
def d19 : Df := { name := "_law_files", ps := [], N := [], b := b19 }
/-- _law_sources -/
def b20 : S := (.seq (.ret (.mth .split (.str "a b c s text head data srcs m longname") (.cons (.str " ") .nil))) .skip)
def d20 : Df := { name := "_law_sources", ps := [], N := [], b := b20 }
/-- _law_rules -/
def b21 : S := (.seq (.ret (.mth .split (.str "r q p all link comp lexer bind pack test goal x lastrule u v deep") (.cons (.str " ") .nil))) .skip)
def d21 : Df := { name := "_law_rules", ps := [], N := [], b := b21 }
/-- _law_body -/
def b22 : S := (.seq (.ifs (.ors (.cons (.cmp .lt (.var 3) (.int 2)) (.cons (.cmp .gt (.var 4) (.int 8)) .nil))) (.seq (.ret (.tup (.cons (.str "done") .nil))) .skip) .skip) (.seq (.asg 5 (.call 15 (.cons (.var 0) (.cons (.int 9) .nil)))) (.seq (.ifs (.ands (.cons (.cmp .eq (.var 5) (.int 4)) (.cons (.cmp .gt (.var 4) (.int 0)) .nil))) (.seq (.ret (.tup (.cons (.str "done") .nil))) .skip) .skip) (.seq (.ifs (.ands (.cons (.cmp .lt (.var 5) (.int 3)) (.cons (.ix (.var 1) (.int 2)) .nil))) (.seq (.asg 6 (.call 16 (.cons (.var 0) (.cons (.ix (.var 1) (.int 2)) .nil)))) (.seq (.asg 7 (.call 15 (.cons (.var 0) (.cons (.ix (.var 1) (.int 0)) .nil)))) (.seq (.ret (.tup (.cons (.str "put") (.cons (.var 6) (.cons (.var 7) (.cons (.call 22 (.cons (.var 0) (.cons (.var 1) (.cons (.var 2) (.cons (.bin .sub (.var 3) (.int 1)) (.cons (.bin .add (.var 4) (.int 1)) .nil)))))) .nil)))))) .skip))) .skip) (.seq (.ifs (.ands (.cons (.cmp .lt (.var 5) (.int 6)) (.cons (.ix (.var 1) (.int 4)) .nil))) (.seq (.asg 8 (.call 15 (.cons (.var 0) (.cons (.blt .len (.cons (.ix (.var 1) (.int 4)) .nil)) .nil)))) (.seq (.ret (.tup (.cons (.str "ask") (.cons (.ix (.ix (.var 1) (.int 4)) (.var 8)) (.cons (.call 22 (.cons (.var 0) (.cons (.var 1) (.cons (.bin .add (.var 2) (.lst (.cons (.var 8) .nil))) (.cons (.bin .sub (.var 3) (.int 1)) (.cons (.bin .add (.var 4) (.int 1)) .nil)))))) .nil))))) .skip)) .skip) (.seq (.asg 9 (.bin .add (.blt .list (.cons (.ix (.var 1) (.int 1)) .nil)) (.blt .list (.cons (.ix (.var 1) (.int 5)) .nil)))) (.seq (.for_ (.one 8) (.iSeq (.var 2)) (.seq (.expr (.mth .extend (.var 9) (.cons (.ix (.ix (.var 1) (.int 3)) (.var 8)) .nil))) .skip)) (.seq (.ifs (.not (.var 9)) (.seq (.ret (.tup (.cons (.str "done") .nil))) .skip) .skip) (.seq (.asg 6 (.call 16 (.cons (.var 0) (.cons (.var 9) .nil)))) (.seq (.asg 10 (.bin .add (.bin .fdiv (.bin .sub (.var 3) (.int 1)) (.bin .add (.ix (.var 1) (.int 0)) (.int 1))) (.int 1))) (.seq (.asg 11 (.lst .nil)) (.seq (.for_ (.one 7) (.iRange (.bin .add (.ix (.var 1) (.int 0)) (.int 1))) (.seq (.expr (.mth .append (.var 11) (.cons (.call 22 (.cons (.var 0) (.cons (.var 1) (.cons (.var 2) (.cons (.var 10) (.cons (.bin .add (.var 4) (.int 1)) .nil)))))) .nil))) .skip)) (.seq (.ret (.tup (.cons (.str "see") (.cons (.var 6) (.cons (.blt .tuple (.cons (.var 11) .nil)) .nil))))) .skip)))))))))))))
def d22 : Df := { name := "_law_body", ps := ["d", "spec", "asked", "left", "deep"], N := ["d", "spec", "asked", "left", "deep", "k", "file", "content", "at", "pool", "share", "bodies"], b := b22 }
/-- _law_tidy_book -/
def b23 : S := (.seq (.asg 5 (.call 18 (.cons (.var 0) (.cons (.call 19 .nil) .nil)))) (.seq (.asg 6 (.slice (.call 18 (.cons (.var 0) (.cons (.call 21 .nil) .nil))) .nil (.var 3))) (.seq (.asg 7 (.blt .tuple (.cons (.slice (.call 18 (.cons (.var 0) (.cons (.call 20 .nil) .nil))) .nil (.var 2)) .nil))) (.seq (.asg 8 (.lst .nil)) (.seq (.asg 9 (.lst .nil)) (.seq (.for_ (.one 10) (.iRange (.var 3)) (.seq (.asg 11 (.ite (.cmp .eq (.call 15 (.cons (.var 0) (.cons (.int 3) .nil))) (.int 1)) (.lst (.cons (.ix (.var 5) (.bin .mul (.int 2) (.var 10))) .nil)) (.lst (.cons (.ix (.var 5) (.bin .mul (.int 2) (.var 10))) (.cons (.ix (.var 5) (.bin .add (.bin .mul (.int 2) (.var 10)) (.int 1))) .nil))))) (.seq (.asg 12 (.ite (.call 17 (.cons (.var 0) (.cons (.int 5) .nil))) (.lst (.cons (.ix (.var 5) (.int 19)) .nil)) (.lst .nil))) (.seq (.ifs (.call 17 (.cons (.var 0) (.cons (.int 5) .nil))) (.seq (.asg 12 (.bin .add (.var 12) (.slice (.var 11) .nil (.int 1)))) .skip) .skip) (.seq (.asg 13 (.lst (.cons (.var 1) (.cons (.var 7) (.cons (.var 11) (.cons (.var 8) (.cons (.slice (.var 6) .nil (.var 10)) (.cons (.var 12) .nil)))))))) (.seq (.expr (.mth .append (.var 9) (.cons (.tup (.cons (.ix (.var 6) (.var 10)) (.cons (.call 22 (.cons (.var 0) (.cons (.var 13) (.cons (.lst .nil) (.cons (.var 4) (.cons (.int 0) .nil)))))) .nil))) .nil))) (.seq (.asg 8 (.bin .add (.var 8) (.lst (.cons (.var 11) .nil)))) .skip))))))) (.seq (.asg 14 (.call 18 (.cons (.var 0) (.cons (.lrng false .nil (.var 3)) .nil)))) (.seq (.ret (.tup (.cons (.var 1) (.cons (.var 7) (.cons (.blt .tuple (.cons (.comp [("at", 15)] (.one 15) (.iSeq (.var 14)) .nil (.ix (.var 9) (.var 15))) .nil)) .nil))))) .skip))))))))
def d23 : Df := { name := "_law_tidy_book", ps := ["d", "kinds", "sources", "rules", "nodes"], N := ["d", "kinds", "sources", "rules", "nodes", "files", "names", "heads", "owned", "rows", "k", "mine", "extra", "spec", "order", "at"], b := b23 }
/-- _law_wild_book -/
def b24 : S := (.seq (.asg 5 (.slice (.call 18 (.cons (.var 0) (.cons (.call 19 .nil) .nil))) .nil (.int 3))) (.seq (.asg 6 (.slice (.call 18 (.cons (.var 0) (.cons (.call 21 .nil) .nil))) .nil (.var 3))) (.seq (.asg 7 (.blt .tuple (.cons (.slice (.call 18 (.cons (.var 0) (.cons (.call 20 .nil) .nil))) .nil (.var 2)) .nil))) (.seq (.asg 8 (.lst .nil)) (.seq (.for_ (.one 9) (.iRange (.var 3)) (.seq (.asg 10 (.lst (.cons (.call 16 (.cons (.var 0) (.cons (.var 5) .nil))) (.cons (.call 16 (.cons (.var 0) (.cons (.var 5) .nil))) .nil)))) (.seq (.ifs (.call 17 (.cons (.var 0) (.cons (.int 9) .nil))) (.seq (.asg 10 (.bin .add (.var 10) (.blt .list (.cons (.var 7) .nil)))) .skip) .skip) (.seq (.asg 11 (.lst (.cons (.var 1) (.cons (.var 7) (.cons (.var 10) (.cons (.bin .mul (.lst (.cons (.var 5) .nil)) (.var 3)) (.cons (.var 6) (.cons (.var 5) .nil)))))))) (.seq (.expr (.mth .append (.var 8) (.cons (.tup (.cons (.ix (.var 6) (.var 9)) (.cons (.call 22 (.cons (.var 0) (.cons (.var 11) (.cons (.lst .nil) (.cons (.var 4) (.cons (.int 0) .nil)))))) .nil))) .nil))) .skip))))) (.seq (.ret (.tup (.cons (.var 1) (.cons (.var 7) (.cons (.blt .tuple (.cons (.var 8) .nil)) .nil))))) .skip))))))
def d24 : Df := { name := "_law_wild_book", ps := ["d", "kinds", "sources", "rules", "nodes"], N := ["d", "kinds", "sources", "rules", "nodes", "files", "names", "heads", "rows", "k", "mine", "spec"], b := b24 }
/-- _law_bodies_of -/
def b25 : S := (.seq (.ifs (.cmp .eq (.ix (.var 0) (.int 0)) (.str "see")) (.seq (.ret (.blt .list (.cons (.ix (.var 0) (.int 2)) .nil))) .skip) .skip) (.seq (.ifs (.cmp .eq (.ix (.var 0) (.int 0)) (.str "done")) (.seq (.ret (.lst .nil)) .skip) .skip) (.seq (.ret (.lst (.cons (.ix (.var 0) (.bin .sub (.blt .len (.cons (.var 0) .nil)) (.int 1))) .nil))) .skip)))
def d25 : Df := { name := "_law_bodies_of", ps := ["body"], N := ["body"], b := b25 }
/-- _law_without_asks -/
def b26 : S := (.seq (.ifs (.cmp .eq (.ix (.var 0) (.int 0)) (.str "ask")) (.seq (.ret (.call 26 (.cons (.ix (.var 0) (.int 2)) .nil))) .skip) .skip) (.seq (.ifs (.cmp .eq (.ix (.var 0) (.int 0)) (.str "see")) (.seq (.ret (.tup (.cons (.str "see") (.cons (.ix (.var 0) (.int 1)) (.cons (.blt .tuple (.cons (.comp [("one", 1)] (.one 1) (.iSeq (.ix (.var 0) (.int 2))) .nil (.call 26 (.cons (.var 1) .nil))) .nil)) .nil))))) .skip) .skip) (.seq (.ifs (.cmp .eq (.ix (.var 0) (.int 0)) (.str "put")) (.seq (.ret (.tup (.cons (.str "put") (.cons (.ix (.var 0) (.int 1)) (.cons (.ix (.var 0) (.int 2)) (.cons (.call 26 (.cons (.ix (.var 0) (.int 3)) .nil)) .nil)))))) .skip) .skip) (.seq (.ret (.var 0)) .skip))))
def d26 : Df := { name := "_law_without_asks", ps := ["body"], N := ["body", "one"], b := b26 }
/-- _law_put_files -/
def b27 : S := (.seq (.asg 1 (.lst .nil)) (.seq (.asg 2 (.lst (.cons (.var 0) .nil))) (.seq (.for_ (.one 3) (.iRange (.int 200)) (.seq (.ifs (.not (.var 2)) (.seq .brk .skip) .skip) (.seq (.asg 4 (.mth .pop (.var 2) .nil)) (.seq (.ifs (.ands (.cons (.cmp .eq (.ix (.var 4) (.int 0)) (.str "put")) (.cons (.cmp .notin (.ix (.var 4) (.int 1)) (.var 1)) .nil))) (.seq (.expr (.mth .append (.var 1) (.cons (.ix (.var 4) (.int 1)) .nil))) .skip) .skip) (.seq (.expr (.mth .extend (.var 2) (.cons (.call 25 (.cons (.var 4) .nil)) .nil))) .skip))))) (.seq (.ret (.var 1)) .skip))))
def d27 : Df := { name := "_law_put_files", ps := ["body"], N := ["body", "found", "left", "turn", "one"], b := b27 }
/-- _law_nodes -/
def b28 : S := (.seq (.asg 1 (.int 0)) (.seq (.asg 2 (.lst (.cons (.var 0) .nil))) (.seq (.for_ (.one 3) (.iRange (.int 400)) (.seq (.ifs (.not (.var 2)) (.seq .brk .skip) .skip) (.seq (.augV 1 .add (.int 1)) (.seq (.expr (.mth .extend (.var 2) (.cons (.call 25 (.cons (.mth .pop (.var 2) .nil) .nil)) .nil))) .skip)))) (.seq (.ret (.var 1)) .skip))))
def d28 : Df := { name := "_law_nodes", ps := ["body"], N := ["body", "many", "left", "turn"], b := b28 }
/-- _law_spoilt_book -/
def b29 : S := (.seq (.asg 2 (.call 15 (.cons (.var 0) (.cons (.blt .len (.cons (.ix (.var 1) (.int 2)) .nil)) .nil)))) (.seq (.asg 3 (.call 15 (.cons (.var 0) (.cons (.blt .len (.cons (.ix (.var 1) (.int 2)) .nil)) .nil)))) (.seq (.asgT [4, 5] (.ix (.ix (.var 1) (.int 2)) (.var 2))) (.seq (.asg 6 (.bin .add (.call 27 (.cons (.ix (.ix (.ix (.var 1) (.int 2)) (.var 3)) (.int 1)) .nil)) (.lst (.cons (.call 16 (.cons (.var 0) (.cons (.call 19 .nil) .nil))) .nil)))) (.seq (.asg 7 (.call 15 (.cons (.var 0) (.cons (.int 6) .nil)))) (.seq (.ifs (.cmp .eq (.var 7) (.int 1)) (.seq (.asg 5 (.call 26 (.cons (.var 5) .nil))) .skip) .skip) (.seq (.ifs (.cmp .eq (.var 7) (.int 2)) (.seq (.asg 5 (.tup (.cons (.str "ask") (.cons (.ix (.ix (.ix (.var 1) (.int 2)) (.var 3)) (.int 0)) (.cons (.var 5) .nil))))) .skip) .skip) (.seq (.ifs (.ands (.cons (.ors (.cons (.cmp .eq (.var 7) (.int 3)) (.cons (.cmp .eq (.var 7) (.int 4)) .nil))) (.cons (.cmp .lt (.bin .mul (.call 28 (.cons (.var 5) .nil)) (.bin .add (.ix (.var 1) (.int 0)) (.int 1))) (.int 58)) .nil))) (.seq (.asg 5 (.tup (.cons (.str "see") (.cons (.ix (.var 6) (.int 0)) (.cons (.blt .tuple (.cons (.bin .mul (.lst (.cons (.var 5) .nil)) (.bin .add (.ix (.var 1) (.int 0)) (.int 1))) .nil)) .nil))))) .skip) .skip) (.seq (.ifs (.cmp .eq (.var 7) (.int 5)) (.seq (.asg 5 (.tup (.cons (.str "put") (.cons (.ix (.var 6) (.int 0)) (.cons (.call 15 (.cons (.var 0) (.cons (.ix (.var 1) (.int 0)) .nil))) (.cons (.var 5) .nil)))))) .skip) .skip) (.seq (.ifs (.ands (.cons (.cmp .eq (.var 7) (.int 0)) (.cons (.ix (.var 1) (.int 1)) (.cons (.call 17 (.cons (.var 0) (.cons (.int 3) .nil))) .nil)))) (.seq (.asg 5 (.tup (.cons (.str "put") (.cons (.call 16 (.cons (.var 0) (.cons (.blt .list (.cons (.ix (.var 1) (.int 1)) .nil)) .nil))) (.cons (.int 0) (.cons (.var 5) .nil)))))) .skip) .skip) (.seq (.asg 8 (.comp [("k", 9)] (.one 9) (.iRange (.blt .len (.cons (.ix (.var 1) (.int 2)) .nil))) .nil (.ite (.cmp .eq (.var 9) (.var 2)) (.tup (.cons (.var 4) (.cons (.var 5) .nil))) (.ix (.ix (.var 1) (.int 2)) (.var 9))))) (.seq (.ret (.tup (.cons (.ix (.var 1) (.int 0)) (.cons (.ix (.var 1) (.int 1)) (.cons (.blt .tuple (.cons (.var 8) .nil)) .nil))))) .skip))))))))))))
def d29 : Df := { name := "_law_spoilt_book", ps := ["d", "book"], N := ["d", "book", "at", "other", "name", "body", "files", "way", "rows", "k"], b := b29 }
/-- _law_book -/
def b30 : S := (.seq (.asg 5 (.call 15 (.cons (.var 0) (.cons (.int 5) .nil)))) (.seq (.asg 6 (.bin .add (.int 1) (.call 15 (.cons (.var 0) (.cons (.var 1) .nil))))) (.seq (.asg 7 (.blt .max (.cons (.call 15 (.cons (.var 0) (.cons (.bin .add (.var 2) (.int 1)) .nil))) (.cons (.call 15 (.cons (.var 0) (.cons (.bin .add (.var 2) (.int 1)) .nil))) .nil)))) (.seq (.asg 8 (.bin .add (.int 1) (.blt .max (.cons (.call 15 (.cons (.var 0) (.cons (.var 3) .nil))) (.cons (.call 15 (.cons (.var 0) (.cons (.var 3) .nil))) .nil))))) (.seq (.ifs (.cmp .eq (.var 5) (.int 3)) (.seq (.ret (.call 24 (.cons (.var 0) (.cons (.var 6) (.cons (.var 7) (.cons (.var 8) (.cons (.var 4) .nil))))))) .skip) .skip) (.seq (.asg 9 (.call 23 (.cons (.var 0) (.cons (.var 6) (.cons (.var 7) (.cons (.var 8) (.cons (.var 4) .nil))))))) (.seq (.ifs (.ors (.cons (.cmp .eq (.var 5) (.int 1)) (.cons (.cmp .eq (.var 5) (.int 2)) .nil))) (.seq (.ret (.call 29 (.cons (.var 0) (.cons (.var 9) .nil)))) .skip) .skip) (.seq (.ret (.var 9)) .skip))))))))
def d30 : Df := { name := "_law_book", ps := ["d", "kinds", "sources", "rules", "nodes"], N := ["d", "kinds", "sources", "rules", "nodes", "way", "many", "seen", "size", "book"], b := b30 }
/-- _law_longer -/
def b31 : S := (.seq (.asg 2 (.lst .nil)) (.seq (.for_ (.one 3) (.iSeq (.var 0)) (.seq (.expr (.mth .extend (.var 2) (.cons (.comp [("content", 4)] (.one 4) (.iRange2 (.neg (.int 1)) (.var 1)) .nil (.bin .add (.var 3) (.tup (.cons (.var 4) .nil)))) .nil))) .skip)) (.seq (.ret (.var 2)) .skip)))
def d31 : Df := { name := "_law_longer", ps := ["rows", "kinds"], N := ["rows", "kinds", "longer", "world", "content"], b := b31 }
/-- _law_worlds -/
def b32 : S := (.seq (.asg 1 (.lst (.cons (.tup .nil) .nil))) (.seq (.for_ (.one 2) (.iSeq (.ix (.var 0) (.int 1))) (.seq (.asg 1 (.call 31 (.cons (.var 1) (.cons (.ix (.var 0) (.int 0)) .nil)))) .skip)) (.seq (.ret (.var 1)) .skip)))
def d32 : Df := { name := "_law_worlds", ps := ["book"], N := ["book", "found", "name"], b := b32 }
/-- _law_with_body -/
def b33 : S := (.seq (.ret (.tup (.cons (.ix (.var 0) (.int 0)) (.cons (.ix (.var 0) (.int 1)) (.cons (.blt .tuple (.cons (.comp [("row", 3)] (.one 3) (.iSeq (.ix (.var 0) (.int 2))) .nil (.ite (.cmp .eq (.ix (.var 3) (.int 0)) (.var 1)) (.tup (.cons (.ix (.var 3) (.int 0)) (.cons (.var 2) .nil))) (.var 3))) .nil)) .nil))))) .skip)
def d33 : Df := { name := "_law_with_body", ps := ["book", "rule", "body"], N := ["book", "rule", "body", "row"], b := b33 }
/-- _law_error -/
def b34 : S := (.seq (.try_ (.seq (.ifs (.cmp .eq (.var 0) (.str "worlds")) (.seq (.ret (.tup (.cons (.str "ok") (.cons (.callX 13 (.cons (.var 3) .nil)) .nil)))) .skip) .skip) (.seq (.ifs (.cmp .eq (.var 0) (.str "body")) (.seq (.ret (.tup (.cons (.str "ok") (.cons (.callX 10 (.cons (.var 3) (.cons (.var 1) .nil))) .nil)))) .skip) .skip) (.seq (.ret (.tup (.cons (.str "ok") (.cons (.callX 11 (.cons (.var 3) (.cons (.var 1) (.cons (.var 2) .nil)))) .nil)))) .skip))) (.hdl (some 4) ["TooMany"] ["NoRule", "BadBody"] (.seq (.ret (.tup (.cons (.str "TooMany") (.cons (.xfd "limit" 4 ["TooMany"]) (.cons (.isx 4 ["NoRule", "BadBody", "TooMany"] []) (.cons (.isx 4 ["NoRule", "BadBody", "TooMany"] []) .nil)))))) .skip) (.hdl (some 4) ["NoRule"] ["BadBody", "TooMany"] (.seq (.ret (.tup (.cons (.str "NoRule") (.cons (.xfd "name" 4 ["NoRule"]) (.cons (.isx 4 ["NoRule", "BadBody", "TooMany"] []) (.cons (.isx 4 ["NoRule", "BadBody", "TooMany"] []) .nil)))))) .skip) (.hdl (some 4) ["BadBody"] ["NoRule", "TooMany"] (.seq (.ret (.tup (.cons (.str "BadBody") (.cons (.xfd "rule" 4 ["BadBody"]) (.cons (.isx 4 ["NoRule", "BadBody", "TooMany"] []) (.cons (.isx 4 ["NoRule", "BadBody", "TooMany"] []) .nil)))))) .skip) .skip)))) .skip)
def d34 : Df := { name := "_law_error", ps := ["kind", "name", "body", "book"], N := ["kind", "name", "body", "book", "e"], b := b34 }
/-- _law_many_worlds -/
def b35 : S := (.seq (.asg 1 (.int 1)) (.seq (.for_ (.one 2) (.iSeq (.ix (.var 0) (.int 1))) (.seq (.asg 1 (.bin .mul (.var 1) (.bin .add (.ix (.var 0) (.int 0)) (.int 1)))) .skip)) (.seq (.ret (.var 1)) .skip)))
def d35 : Df := { name := "_law_many_worlds", ps := ["book"], N := ["book", "many", "name"], b := b35 }
/-- _law_deep -/
def b36 : S := (.seq (.asg 1 (.int 0)) (.seq (.asg 2 (.lst (.cons (.tup (.cons (.var 0) (.cons (.int 1) .nil))) .nil))) (.seq (.for_ (.one 3) (.iRange (.int 400)) (.seq (.ifs (.not (.var 2)) (.seq .brk .skip) .skip) (.seq (.asgT [4, 5] (.mth .pop (.var 2) .nil)) (.seq (.asg 1 (.blt .max (.cons (.var 1) (.cons (.var 5) .nil)))) (.seq (.expr (.mth .extend (.var 2) (.cons (.comp [("part", 6)] (.one 6) (.iSeq (.call 25 (.cons (.var 4) .nil))) .nil (.tup (.cons (.var 6) (.cons (.bin .add (.var 5) (.int 1)) .nil)))) .nil))) .skip))))) (.seq (.ret (.var 1)) .skip))))
def d36 : Df := { name := "_law_deep", ps := ["body"], N := ["body", "deepest", "left", "turn", "one", "depth", "part"], b := b36 }
/-- _law_other_body -/
def b37 : S := (.seq (.asg 3 (.comp [("row", 4)] (.one 4) (.iSeq (.ix (.var 1) (.int 2))) .nil (.ix (.var 4) (.int 0)))) (.seq (.asg 5 (.call 15 (.cons (.var 0) (.cons (.int 6) .nil)))) (.seq (.ifs (.cmp .eq (.var 5) (.int 0)) (.seq (.ret (.tup (.cons (.tup (.cons (.str "ask") (.cons (.str "nobodyis") (.cons (.tup (.cons (.str "done") .nil)) .nil)))) (.cons (.bl false) .nil)))) .skip) .skip) (.seq (.ifs (.cmp .eq (.var 5) (.int 1)) (.seq (.ret (.tup (.cons (.tup (.cons (.str "ask") (.cons (.call 16 (.cons (.var 0) (.cons (.var 3) .nil))) (.cons (.tup (.cons (.str "done") .nil)) .nil)))) (.cons (.bl true) .nil)))) .skip) .skip) (.seq (.asg 6 (.ix (.call 16 (.cons (.var 0) (.cons (.blt .list (.cons (.ix (.var 1) (.int 2)) .nil)) .nil))) (.int 1))) (.seq (.ifs (.cmp .eq (.var 5) (.int 2)) (.seq (.for_ (.one 7) (.iRange (.call 15 (.cons (.var 0) (.cons (.int 16) .nil)))) (.seq (.asg 6 (.tup (.cons (.str "put") (.cons (.str "x") (.cons (.int 0) (.cons (.var 6) .nil)))))) .skip)) .skip) .skip) (.seq (.ifs (.ors (.cons (.cmp .eq (.var 5) (.int 3)) (.cons (.cmp .eq (.var 5) (.int 4)) .nil))) (.seq (.for_ (.one 7) (.iRange (.call 15 (.cons (.var 0) (.cons (.int 4) .nil)))) (.seq (.asg 6 (.tup (.cons (.str "see") (.cons (.str "x") (.cons (.blt .tuple (.cons (.bin .mul (.lst (.cons (.var 6) .nil)) (.bin .add (.ix (.var 1) (.int 0)) (.int 1))) .nil)) .nil))))) (.seq (.ifs (.cmp .gt (.call 28 (.cons (.var 6) .nil)) (.int 60)) (.seq .brk .skip) .skip) .skip))) .skip) .skip) (.seq (.ret (.tup (.cons (.var 6) (.cons (.ands (.cons (.cmp .le (.call 36 (.cons (.var 6) .nil)) (.int 16)) (.cons (.cmp .le (.call 28 (.cons (.var 6) .nil)) (.int 120)) .nil))) .nil)))) .skip))))))))
def d37 : Df := { name := "_law_other_body", ps := ["d", "book", "name"], N := ["d", "book", "name", "names", "row", "way", "body", "k"], b := b37 }
/-- law -/
def b38 : S := (.seq (.asg 1 (.call 14 (.cons (.var 0) .nil))) (.seq (.asg 2 (.call 30 (.cons (.var 1) (.cons (.int 4) (.cons (.int 3) (.cons (.int 3) (.cons (.int 12) .nil))))))) (.seq (.ifs (.call 17 (.cons (.var 1) (.cons (.int 3) .nil))) (.seq (.asg 2 (.tup (.cons (.ix (.var 2) (.int 0)) (.cons (.slice (.tup (.cons (.str "a") (.cons (.str "b") (.cons (.str "c") (.cons (.str "s") (.cons (.str "m") .nil)))))) .nil (.call 15 (.cons (.var 1) (.cons (.int 6) .nil)))) (.cons (.ix (.var 2) (.int 2)) .nil))))) .skip) .skip) (.seq (.asg 3 (.call 35 (.cons (.var 2) .nil))) (.seq (.asg 4 (.call 34 (.cons (.str "worlds") (.cons (.str "") (.cons (.tup .nil) (.cons (.var 2) .nil)))))) (.seq (.ifs (.cmp .gt (.var 3) (.int 400)) (.seq (.ifs (.cmp .neb (.var 4) (.tup (.cons (.str "TooMany") (.cons (.int 400) (.cons (.bl true) (.cons (.bl true) .nil)))))) (.seq (.ret (.bl false)) .skip) .skip) .skip) (.seq (.ifs (.ors (.cons (.cmp .ne (.ix (.var 4) (.int 0)) (.str "ok")) (.cons (.not (.isinst (.ix (.var 4) (.int 1)) "tuple")) (.cons (.cmp .ne (.blt .list (.cons (.ix (.var 4) (.int 1)) .nil)) (.call 32 (.cons (.var 2) .nil))) .nil)))) (.seq (.ret (.bl false)) .skip) .skip) .skip)) (.seq (.for_ (.one 5) (.iSeq (.ix (.var 2) (.int 2))) (.seq (.ifs (.ors (.cons (.cmp .ne (.call 7 (.cons (.ix (.var 5) (.int 1)) .nil)) (.call 28 (.cons (.ix (.var 5) (.int 1)) .nil))) (.cons (.cmp .ne (.callX 10 (.cons (.var 2) (.cons (.ix (.var 5) (.int 0)) .nil))) (.ix (.var 5) (.int 1))) .nil))) (.seq (.ret (.bl false)) .skip) .skip) .skip)) (.seq (.asg 6 (.call 16 (.cons (.var 1) (.cons (.comp [("row", 5)] (.one 5) (.iSeq (.ix (.var 2) (.int 2))) .nil (.ix (.var 5) (.int 0))) .nil)))) (.seq (.asgT [7, 8] (.call 37 (.cons (.var 1) (.cons (.var 2) (.cons (.var 6) .nil))))) (.seq (.asg 9 (.ite (.var 8) (.tup (.cons (.str "ok") (.cons (.call 33 (.cons (.var 2) (.cons (.var 6) (.cons (.var 7) .nil)))) .nil))) (.tup (.cons (.str "BadBody") (.cons (.var 6) (.cons (.bl true) (.cons (.bl true) .nil))))))) (.seq (.ifs (.cmp .neb (.call 34 (.cons (.str "with") (.cons (.var 6) (.cons (.var 7) (.cons (.var 2) .nil))))) (.var 9)) (.seq (.ret (.bl false)) .skip) .skip) (.seq (.ifs (.cmp .neb (.call 34 (.cons (.str "with") (.cons (.str "nobodyis") (.cons (.var 7) (.cons (.var 2) .nil))))) (.tup (.cons (.str "NoRule") (.cons (.str "nobodyis") (.cons (.bl true) (.cons (.bl true) .nil)))))) (.seq (.ret (.bl false)) .skip) .skip) (.seq (.ret (.cmp .eqb (.call 34 (.cons (.str "body") (.cons (.str "nobodyis") (.cons (.var 7) (.cons (.var 2) .nil))))) (.tup (.cons (.str "NoRule") (.cons (.str "nobodyis") (.cons (.bl true) (.cons (.bl true) .nil))))))) .skip)))))))))))))
def d38 : Df := { name := "law", ps := ["script"], N := ["script", "d", "book", "many", "told", "row", "name", "body", "is_right", "due"], b := b38 }
def T : List Df := [d0, d1, d2, d3, d4, d5, d6, d7, d8, d9, d10, d11, d12, d13, d14, d15, d16, d17, d18, d19, d20, d21, d22, d23, d24, d25, d26, d27, d28, d29, d30, d31, d32, d33, d34, d35, d36, d37, d38]
def top (i : Nat) : Stmt := PySem.Challenge.pw_holdstill_k02_worlds_and_bodies.main.body.getD i (.Pass ⟨0, 0, 0, 0⟩)
def sts : List Stmt := [(top 14), (top 15), (top 16), (top 17), (top 18), (top 19), (top 20), (top 21), (top 22), (top 23), (top 24), (top 25), (top 26), (top 27), (top 29), (top 30), (top 31), (top 32), (top 33), (top 34), (top 35), (top 36), (top 37), (top 38), (top 39), (top 40), (top 41), (top 42), (top 43), (top 44), (top 45), (top 46), (top 47), (top 48), (top 49), (top 50), (top 51), (top 52), (top 53)]
def xd0 : Xd := ⟨"NoRule", some "name", inCls (top 3) 0, ["self", "name"]⟩
def xd1 : Xd := ⟨"BadBody", some "rule", inCls (top 4) 0, ["self", "rule"]⟩
def xd2 : Xd := ⟨"TooMany", some "limit", inCls (top 2) 0, ["self", "limit"]⟩
def G : Pg := { T := T, cs := [], ks := [("MOST_PATH", 16), ("MOST_NODES", 120), ("MOST_RULES", 8), ("MOST_SOURCES", 5), ("MOST_KINDS", 4), ("MOST_WORLDS", 400)], ss := [("LETTERS", "abcdefghijklmnopqrstuvwxyz")], ts := [], ds := [("RESERVED", (.dtp [(.str "kinds"), (.str "sources"), (.str "rule"), (.str "form"), (.str "see"), (.str "ask"), (.str "put"), (.str "follow"), (.str "done"), (.str "gone"), (.str "else"), (.str "end")]))], xds := [xd0, xd1, xd2], isxs := [(["ValueError"], ["NoRule", "BadBody", "TooMany"], []), (["HoldError"], ["NoRule", "BadBody", "TooMany"], [])], hds := [("BadBody", ["BadBody"], ["NoRule", "TooMany"]), ("NoRule", ["NoRule"], ["BadBody", "TooMany"]), ("TooMany", ["TooMany"], ["NoRule", "BadBody"])], xnm := ["BadBody", "HoldError", "NoRule", "TooMany"], file := PySem.Challenge.pw_holdstill_k02_worlds_and_bodies.main.file }
theorem ck0 : (nameOf (top 14) = d0.name) ∧ ckF G d0 (top 14) = true := by decide +kernel
theorem bd0 : BindP d0.name d0.qual (top 14) d0.ps := fun _ _ _ _ _ _ us hl => match us, hl with | [_], _ => by kernel_rfl
theorem ck1 : (nameOf (top 15) = d1.name) ∧ ckF G d1 (top 15) = true := by decide +kernel
theorem bd1 : BindP d1.name d1.qual (top 15) d1.ps := fun _ _ _ _ _ _ us hl => match us, hl with | [_], _ => by kernel_rfl
theorem ck2 : (nameOf (top 16) = d2.name) ∧ ckF G d2 (top 16) = true := by decide +kernel
theorem bd2 : BindP d2.name d2.qual (top 16) d2.ps := fun _ _ _ _ _ _ us hl => match us, hl with | [_, _], _ => by kernel_rfl
theorem ck3 : (nameOf (top 17) = d3.name) ∧ ckF G d3 (top 17) = true := by decide +kernel
theorem bd3 : BindP d3.name d3.qual (top 17) d3.ps := fun _ _ _ _ _ _ us hl => match us, hl with | [_, _, _], _ => by kernel_rfl
theorem ck4 : (nameOf (top 18) = d4.name) ∧ ckF G d4 (top 18) = true := by decide +kernel
theorem bd4 : BindP d4.name d4.qual (top 18) d4.ps := fun _ _ _ _ _ _ us hl => match us, hl with | [_, _, _], _ => by kernel_rfl
theorem ck5 : (nameOf (top 19) = d5.name) ∧ ckF G d5 (top 19) = true := by decide +kernel
theorem bd5 : BindP d5.name d5.qual (top 19) d5.ps := fun _ _ _ _ _ _ us hl => match us, hl with | [_, _, _], _ => by kernel_rfl
theorem ck6 : (nameOf (top 20) = d6.name) ∧ ckF G d6 (top 20) = true := by decide +kernel
theorem bd6 : BindP d6.name d6.qual (top 20) d6.ps := fun _ _ _ _ _ _ us hl => match us, hl with | [_], _ => by kernel_rfl
theorem ck7 : (nameOf (top 21) = d7.name) ∧ ckF G d7 (top 21) = true := by decide +kernel
theorem bd7 : BindP d7.name d7.qual (top 21) d7.ps := fun _ _ _ _ _ _ us hl => match us, hl with | [_], _ => by kernel_rfl
theorem ck8 : (nameOf (top 22) = d8.name) ∧ ckF G d8 (top 22) = true := by decide +kernel
theorem bd8 : BindP d8.name d8.qual (top 22) d8.ps := fun _ _ _ _ _ _ us hl => match us, hl with | [_], _ => by kernel_rfl
theorem ck9 : (nameOf (top 23) = d9.name) ∧ ckF G d9 (top 23) = true := by decide +kernel
theorem bd9 : BindP d9.name d9.qual (top 23) d9.ps := fun _ _ _ _ _ _ us hl => match us, hl with | [_], _ => by kernel_rfl
theorem ck10 : (nameOf (top 24) = d10.name) ∧ ckF G d10 (top 24) = true := by decide +kernel
theorem bd10 : BindP d10.name d10.qual (top 24) d10.ps := fun _ _ _ _ _ _ us hl => match us, hl with | [_, _], _ => by kernel_rfl
theorem ck11 : (nameOf (top 25) = d11.name) ∧ ckF G d11 (top 25) = true := by decide +kernel
theorem bd11 : BindP d11.name d11.qual (top 25) d11.ps := fun _ _ _ _ _ _ us hl => match us, hl with | [_, _, _], _ => by kernel_rfl
theorem ck12 : (nameOf (top 26) = d12.name) ∧ ckF G d12 (top 26) = true := by decide +kernel
theorem bd12 : BindP d12.name d12.qual (top 26) d12.ps := fun _ _ _ _ _ _ us hl => match us, hl with | [_], _ => by kernel_rfl
theorem ck13 : (nameOf (top 27) = d13.name) ∧ ckF G d13 (top 27) = true := by decide +kernel
theorem bd13 : BindP d13.name d13.qual (top 27) d13.ps := fun _ _ _ _ _ _ us hl => match us, hl with | [_], _ => by kernel_rfl
theorem ck14 : (nameOf (top 29) = d14.name) ∧ ckF G d14 (top 29) = true := by decide +kernel
theorem bd14 : BindP d14.name d14.qual (top 29) d14.ps := fun _ _ _ _ _ _ us hl => match us, hl with | [_], _ => by kernel_rfl
theorem ck15 : (nameOf (top 30) = d15.name) ∧ ckF G d15 (top 30) = true := by decide +kernel
theorem bd15 : BindP d15.name d15.qual (top 30) d15.ps := fun _ _ _ _ _ _ us hl => match us, hl with | [_, _], _ => by kernel_rfl
theorem ck16 : (nameOf (top 31) = d16.name) ∧ ckF G d16 (top 31) = true := by decide +kernel
theorem bd16 : BindP d16.name d16.qual (top 31) d16.ps := fun _ _ _ _ _ _ us hl => match us, hl with | [_, _], _ => by kernel_rfl
theorem ck17 : (nameOf (top 32) = d17.name) ∧ ckF G d17 (top 32) = true := by decide +kernel
theorem bd17 : BindP d17.name d17.qual (top 32) d17.ps := fun _ _ _ _ _ _ us hl => match us, hl with | [_, _], _ => by kernel_rfl
theorem ck18 : (nameOf (top 33) = d18.name) ∧ ckF G d18 (top 33) = true := by decide +kernel
theorem bd18 : BindP d18.name d18.qual (top 33) d18.ps := fun _ _ _ _ _ _ us hl => match us, hl with | [_, _], _ => by kernel_rfl
theorem ck19 : (nameOf (top 34) = d19.name) ∧ ckF G d19 (top 34) = true := by decide +kernel
theorem bd19 : BindP d19.name d19.qual (top 34) d19.ps := fun _ _ _ _ _ _ us hl => match us, hl with | [], _ => by kernel_rfl
theorem ck20 : (nameOf (top 35) = d20.name) ∧ ckF G d20 (top 35) = true := by decide +kernel
theorem bd20 : BindP d20.name d20.qual (top 35) d20.ps := fun _ _ _ _ _ _ us hl => match us, hl with | [], _ => by kernel_rfl
theorem ck21 : (nameOf (top 36) = d21.name) ∧ ckF G d21 (top 36) = true := by decide +kernel
theorem bd21 : BindP d21.name d21.qual (top 36) d21.ps := fun _ _ _ _ _ _ us hl => match us, hl with | [], _ => by kernel_rfl
theorem ck22 : (nameOf (top 37) = d22.name) ∧ ckF G d22 (top 37) = true := by decide +kernel
theorem bd22 : BindP d22.name d22.qual (top 37) d22.ps := fun _ _ _ _ _ _ us hl => match us, hl with | [_, _, _, _, _], _ => by kernel_rfl
theorem ck23 : (nameOf (top 38) = d23.name) ∧ ckF G d23 (top 38) = true := by decide +kernel
theorem bd23 : BindP d23.name d23.qual (top 38) d23.ps := fun _ _ _ _ _ _ us hl => match us, hl with | [_, _, _, _, _], _ => by kernel_rfl
theorem ck24 : (nameOf (top 39) = d24.name) ∧ ckF G d24 (top 39) = true := by decide +kernel
theorem bd24 : BindP d24.name d24.qual (top 39) d24.ps := fun _ _ _ _ _ _ us hl => match us, hl with | [_, _, _, _, _], _ => by kernel_rfl
theorem ck25 : (nameOf (top 40) = d25.name) ∧ ckF G d25 (top 40) = true := by decide +kernel
theorem bd25 : BindP d25.name d25.qual (top 40) d25.ps := fun _ _ _ _ _ _ us hl => match us, hl with | [_], _ => by kernel_rfl
theorem ck26 : (nameOf (top 41) = d26.name) ∧ ckF G d26 (top 41) = true := by decide +kernel
theorem bd26 : BindP d26.name d26.qual (top 41) d26.ps := fun _ _ _ _ _ _ us hl => match us, hl with | [_], _ => by kernel_rfl
theorem ck27 : (nameOf (top 42) = d27.name) ∧ ckF G d27 (top 42) = true := by decide +kernel
theorem bd27 : BindP d27.name d27.qual (top 42) d27.ps := fun _ _ _ _ _ _ us hl => match us, hl with | [_], _ => by kernel_rfl
theorem ck28 : (nameOf (top 43) = d28.name) ∧ ckF G d28 (top 43) = true := by decide +kernel
theorem bd28 : BindP d28.name d28.qual (top 43) d28.ps := fun _ _ _ _ _ _ us hl => match us, hl with | [_], _ => by kernel_rfl
theorem ck29 : (nameOf (top 44) = d29.name) ∧ ckF G d29 (top 44) = true := by decide +kernel
theorem bd29 : BindP d29.name d29.qual (top 44) d29.ps := fun _ _ _ _ _ _ us hl => match us, hl with | [_, _], _ => by kernel_rfl
theorem ck30 : (nameOf (top 45) = d30.name) ∧ ckF G d30 (top 45) = true := by decide +kernel
theorem bd30 : BindP d30.name d30.qual (top 45) d30.ps := fun _ _ _ _ _ _ us hl => match us, hl with | [_, _, _, _, _], _ => by kernel_rfl
theorem ck31 : (nameOf (top 46) = d31.name) ∧ ckF G d31 (top 46) = true := by decide +kernel
theorem bd31 : BindP d31.name d31.qual (top 46) d31.ps := fun _ _ _ _ _ _ us hl => match us, hl with | [_, _], _ => by kernel_rfl
theorem ck32 : (nameOf (top 47) = d32.name) ∧ ckF G d32 (top 47) = true := by decide +kernel
theorem bd32 : BindP d32.name d32.qual (top 47) d32.ps := fun _ _ _ _ _ _ us hl => match us, hl with | [_], _ => by kernel_rfl
theorem ck33 : (nameOf (top 48) = d33.name) ∧ ckF G d33 (top 48) = true := by decide +kernel
theorem bd33 : BindP d33.name d33.qual (top 48) d33.ps := fun _ _ _ _ _ _ us hl => match us, hl with | [_, _, _], _ => by kernel_rfl
theorem ck34 : (nameOf (top 49) = d34.name) ∧ ckF G d34 (top 49) = true := by decide +kernel
theorem bd34 : BindP d34.name d34.qual (top 49) d34.ps := fun _ _ _ _ _ _ us hl => match us, hl with | [_, _, _, _], _ => by kernel_rfl
theorem ck35 : (nameOf (top 50) = d35.name) ∧ ckF G d35 (top 50) = true := by decide +kernel
theorem bd35 : BindP d35.name d35.qual (top 50) d35.ps := fun _ _ _ _ _ _ us hl => match us, hl with | [_], _ => by kernel_rfl
theorem ck36 : (nameOf (top 51) = d36.name) ∧ ckF G d36 (top 51) = true := by decide +kernel
theorem bd36 : BindP d36.name d36.qual (top 51) d36.ps := fun _ _ _ _ _ _ us hl => match us, hl with | [_], _ => by kernel_rfl
theorem ck37 : (nameOf (top 52) = d37.name) ∧ ckF G d37 (top 52) = true := by decide +kernel
theorem bd37 : BindP d37.name d37.qual (top 52) d37.ps := fun _ _ _ _ _ _ us hl => match us, hl with | [_, _, _], _ => by kernel_rfl
theorem ck38 : (nameOf (top 53) = d38.name) ∧ ckF G d38 (top 53) = true := by decide +kernel
theorem bd38 : BindP d38.name d38.qual (top 53) d38.ps := fun _ _ _ _ _ _ us hl => match us, hl with | [_], _ => by kernel_rfl
theorem ck : ckT G sts = true := by
  unfold ckT
  rw [Bool.and_eq_true]
  refine ⟨by decide +kernel, ?_⟩
  show (List.zip [d0, d1, d2, d3, d4, d5, d6, d7, d8, d9, d10, d11, d12, d13, d14, d15, d16, d17, d18, d19, d20, d21, d22, d23, d24, d25, d26, d27, d28, d29, d30, d31, d32, d33, d34, d35, d36, d37, d38] [(top 14), (top 15), (top 16), (top 17), (top 18), (top 19), (top 20), (top 21), (top 22), (top 23), (top 24), (top 25), (top 26), (top 27), (top 29), (top 30), (top 31), (top 32), (top 33), (top 34), (top 35), (top 36), (top 37), (top 38), (top 39), (top 40), (top 41), (top 42), (top 43), (top 44), (top 45), (top 46), (top 47), (top 48), (top 49), (top 50), (top 51), (top 52), (top 53)]).all _ = true
  simp only [List.zip_cons_cons, List.zip_nil_right, List.all_cons, List.all_nil, Bool.and_true, Bool.and_eq_true, decide_eq_true_eq]
  exact ⟨⟨ck0.1, ck0.2⟩, ⟨ck1.1, ck1.2⟩, ⟨ck2.1, ck2.2⟩, ⟨ck3.1, ck3.2⟩, ⟨ck4.1, ck4.2⟩, ⟨ck5.1, ck5.2⟩, ⟨ck6.1, ck6.2⟩, ⟨ck7.1, ck7.2⟩, ⟨ck8.1, ck8.2⟩, ⟨ck9.1, ck9.2⟩, ⟨ck10.1, ck10.2⟩, ⟨ck11.1, ck11.2⟩, ⟨ck12.1, ck12.2⟩, ⟨ck13.1, ck13.2⟩, ⟨ck14.1, ck14.2⟩, ⟨ck15.1, ck15.2⟩, ⟨ck16.1, ck16.2⟩, ⟨ck17.1, ck17.2⟩, ⟨ck18.1, ck18.2⟩, ⟨ck19.1, ck19.2⟩, ⟨ck20.1, ck20.2⟩, ⟨ck21.1, ck21.2⟩, ⟨ck22.1, ck22.2⟩, ⟨ck23.1, ck23.2⟩, ⟨ck24.1, ck24.2⟩, ⟨ck25.1, ck25.2⟩, ⟨ck26.1, ck26.2⟩, ⟨ck27.1, ck27.2⟩, ⟨ck28.1, ck28.2⟩, ⟨ck29.1, ck29.2⟩, ⟨ck30.1, ck30.2⟩, ⟨ck31.1, ck31.2⟩, ⟨ck32.1, ck32.2⟩, ⟨ck33.1, ck33.2⟩, ⟨ck34.1, ck34.2⟩, ⟨ck35.1, ck35.2⟩, ⟨ck36.1, ck36.2⟩, ⟨ck37.1, ck37.2⟩, ⟨ck38.1, ck38.2⟩⟩
theorem bd : ∀ (i : Nat) (d : Df) (st : Stmt), G.T[i]? = some d → sts[i]? = some st → BindP d.name d.qual st d.ps := bd_of (by
  show AllBd (List.zip [d0, d1, d2, d3, d4, d5, d6, d7, d8, d9, d10, d11, d12, d13, d14, d15, d16, d17, d18, d19, d20, d21, d22, d23, d24, d25, d26, d27, d28, d29, d30, d31, d32, d33, d34, d35, d36, d37, d38] [(top 14), (top 15), (top 16), (top 17), (top 18), (top 19), (top 20), (top 21), (top 22), (top 23), (top 24), (top 25), (top 26), (top 27), (top 29), (top 30), (top 31), (top 32), (top 33), (top 34), (top 35), (top 36), (top 37), (top 38), (top 39), (top 40), (top 41), (top 42), (top 43), (top 44), (top 45), (top 46), (top 47), (top 48), (top 49), (top 50), (top 51), (top 52), (top 53)])
  exact ⟨bd0, bd1, bd2, bd3, bd4, bd5, bd6, bd7, bd8, bd9, bd10, bd11, bd12, bd13, bd14, bd15, bd16, bd17, bd18, bd19, bd20, bd21, bd22, bd23, bd24, bd25, bd26, bd27, bd28, bd29, bd30, bd31, bd32, bd33, bd34, bd35, bd36, bd37, bd38, trivial⟩)
theorem xck0 : ckXd xd0 = true := by decide +kernel
theorem xbd0 : BindPX xd0 := fun _ _ _ _ _ _ _ us hl => match us, hl with | [_, _], _ => by kernel_rfl
theorem xck1 : ckXd xd1 = true := by decide +kernel
theorem xbd1 : BindPX xd1 := fun _ _ _ _ _ _ _ us hl => match us, hl with | [_, _], _ => by kernel_rfl
theorem xck2 : ckXd xd2 = true := by decide +kernel
theorem xbd2 : BindPX xd2 := fun _ _ _ _ _ _ _ us hl => match us, hl with | [_, _], _ => by kernel_rfl
theorem xo : XsOk (PySem.Challenge.rw_holdstill_k02_worlds_and_bodies).prog G where
  ck := by
    show ∀ x ∈ ([xd0, xd1, xd2] : List Xd), ckXd x = true
    intro x hx
    simp only [List.mem_cons, List.not_mem_nil, or_false] at hx
    rcases hx with rfl | rfl | rfl
    · exact xck0
    · exact xck1
    · exact xck2
  bd := ⟨xbd0, xbd1, xbd2, trivial⟩
  file := fun _ => by kernel_rfl
  top := fun _ => by kernel_rfl
theorem cs0 {k : Nat} {us : List U} {M : Hm} {Q : QU} (hl : us.length = 1) (h : wS (Cs T k) b0 ⟨fun _ M1 => ∃ M2, Sub M2 M1 ∧ Q .non M2, fun u M1 => ∃ M2, Sub M2 M1 ∧ Q u M2, fun _ _ => False, fun _ _ => False⟩ (startU 1 us) M) : Cs T (k + 1) 0 us M Q := ⟨d0, rfl, hl, h⟩
theorem cs1 {k : Nat} {us : List U} {M : Hm} {Q : QU} (hl : us.length = 1) (h : wS (Cs T k) b1 ⟨fun _ M1 => ∃ M2, Sub M2 M1 ∧ Q .non M2, fun u M1 => ∃ M2, Sub M2 M1 ∧ Q u M2, fun _ _ => False, fun _ _ => False⟩ (startU 2 us) M) : Cs T (k + 1) 1 us M Q := ⟨d1, rfl, hl, h⟩
theorem cs2 {k : Nat} {us : List U} {M : Hm} {Q : QU} (hl : us.length = 2) (h : wS (Cs T k) b2 ⟨fun _ M1 => ∃ M2, Sub M2 M1 ∧ Q .non M2, fun u M1 => ∃ M2, Sub M2 M1 ∧ Q u M2, fun _ _ => False, fun _ _ => False⟩ (startU 2 us) M) : Cs T (k + 1) 2 us M Q := ⟨d2, rfl, hl, h⟩
theorem cs3 {k : Nat} {us : List U} {M : Hm} {Q : QU} (hl : us.length = 3) (h : wS (Cs T k) b3 ⟨fun _ M1 => ∃ M2, Sub M2 M1 ∧ Q .non M2, fun u M1 => ∃ M2, Sub M2 M1 ∧ Q u M2, fun _ _ => False, fun _ _ => False⟩ (startU 4 us) M) : Cs T (k + 1) 3 us M Q := ⟨d3, rfl, hl, h⟩
theorem cs4 {k : Nat} {us : List U} {M : Hm} {Q : QU} (hl : us.length = 3) (h : wS (Cs T k) b4 ⟨fun _ M1 => ∃ M2, Sub M2 M1 ∧ Q .non M2, fun u M1 => ∃ M2, Sub M2 M1 ∧ Q u M2, fun _ _ => False, fun _ _ => False⟩ (startU 4 us) M) : Cs T (k + 1) 4 us M Q := ⟨d4, rfl, hl, h⟩
theorem cs5 {k : Nat} {us : List U} {M : Hm} {Q : QU} (hl : us.length = 3) (h : wS (Cs T k) b5 ⟨fun _ M1 => ∃ M2, Sub M2 M1 ∧ Q .non M2, fun u M1 => ∃ M2, Sub M2 M1 ∧ Q u M2, fun _ _ => False, fun _ _ => False⟩ (startU 9 us) M) : Cs T (k + 1) 5 us M Q := ⟨d5, rfl, hl, h⟩
theorem cs6 {k : Nat} {us : List U} {M : Hm} {Q : QU} (hl : us.length = 1) (h : wS (Cs T k) b6 ⟨fun _ M1 => ∃ M2, Sub M2 M1 ∧ Q .non M2, fun u M1 => ∃ M2, Sub M2 M1 ∧ Q u M2, fun _ _ => False, fun _ _ => False⟩ (startU 7 us) M) : Cs T (k + 1) 6 us M Q := ⟨d6, rfl, hl, h⟩
theorem cs7 {k : Nat} {us : List U} {M : Hm} {Q : QU} (hl : us.length = 1) (h : wS (Cs T k) b7 ⟨fun _ M1 => ∃ M2, Sub M2 M1 ∧ Q .non M2, fun u M1 => ∃ M2, Sub M2 M1 ∧ Q u M2, fun _ _ => False, fun _ _ => False⟩ (startU 1 us) M) : Cs T (k + 1) 7 us M Q := ⟨d7, rfl, hl, h⟩
theorem cs8 {k : Nat} {us : List U} {M : Hm} {Q : QU} (hl : us.length = 1) (h : wS (Cs T k) b8 ⟨fun _ M1 => ∃ M2, Sub M2 M1 ∧ Q .non M2, fun u M1 => ∃ M2, Sub M2 M1 ∧ Q u M2, fun _ _ => False, fun _ _ => False⟩ (startU 2 us) M) : Cs T (k + 1) 8 us M Q := ⟨d8, rfl, hl, h⟩
theorem cs9 {k : Nat} {us : List U} {M : Hm} {Q : QU} (hl : us.length = 1) (h : wS (Cs T k) b9 ⟨fun _ M1 => ∃ M2, Sub M2 M1 ∧ Q .non M2, fun u M1 => ∃ M2, Sub M2 M1 ∧ Q u M2, fun _ _ => False, fun _ _ => False⟩ (startU 6 us) M) : Cs T (k + 1) 9 us M Q := ⟨d9, rfl, hl, h⟩
theorem cs12 {k : Nat} {us : List U} {M : Hm} {Q : QU} (hl : us.length = 1) (h : wS (Cs T k) b12 ⟨fun _ M1 => ∃ M2, Sub M2 M1 ∧ Q .non M2, fun u M1 => ∃ M2, Sub M2 M1 ∧ Q u M2, fun _ _ => False, fun _ _ => False⟩ (startU 3 us) M) : Cs T (k + 1) 12 us M Q := ⟨d12, rfl, hl, h⟩
theorem cs14 {k : Nat} {us : List U} {M : Hm} {Q : QU} (hl : us.length = 1) (h : wS (Cs T k) b14 ⟨fun _ M1 => ∃ M2, Sub M2 M1 ∧ Q .non M2, fun u M1 => ∃ M2, Sub M2 M1 ∧ Q u M2, fun _ _ => False, fun _ _ => False⟩ (startU 2 us) M) : Cs T (k + 1) 14 us M Q := ⟨d14, rfl, hl, h⟩
theorem cs15 {k : Nat} {us : List U} {M : Hm} {Q : QU} (hl : us.length = 2) (h : wS (Cs T k) b15 ⟨fun _ M1 => ∃ M2, Sub M2 M1 ∧ Q .non M2, fun u M1 => ∃ M2, Sub M2 M1 ∧ Q u M2, fun _ _ => False, fun _ _ => False⟩ (startU 5 us) M) : Cs T (k + 1) 15 us M Q := ⟨d15, rfl, hl, h⟩
theorem cs16 {k : Nat} {us : List U} {M : Hm} {Q : QU} (hl : us.length = 2) (h : wS (Cs T k) b16 ⟨fun _ M1 => ∃ M2, Sub M2 M1 ∧ Q .non M2, fun u M1 => ∃ M2, Sub M2 M1 ∧ Q u M2, fun _ _ => False, fun _ _ => False⟩ (startU 2 us) M) : Cs T (k + 1) 16 us M Q := ⟨d16, rfl, hl, h⟩
theorem cs17 {k : Nat} {us : List U} {M : Hm} {Q : QU} (hl : us.length = 2) (h : wS (Cs T k) b17 ⟨fun _ M1 => ∃ M2, Sub M2 M1 ∧ Q .non M2, fun u M1 => ∃ M2, Sub M2 M1 ∧ Q u M2, fun _ _ => False, fun _ _ => False⟩ (startU 2 us) M) : Cs T (k + 1) 17 us M Q := ⟨d17, rfl, hl, h⟩
theorem cs18 {k : Nat} {us : List U} {M : Hm} {Q : QU} (hl : us.length = 2) (h : wS (Cs T k) b18 ⟨fun _ M1 => ∃ M2, Sub M2 M1 ∧ Q .non M2, fun u M1 => ∃ M2, Sub M2 M1 ∧ Q u M2, fun _ _ => False, fun _ _ => False⟩ (startU 5 us) M) : Cs T (k + 1) 18 us M Q := ⟨d18, rfl, hl, h⟩
theorem cs19 {k : Nat} {us : List U} {M : Hm} {Q : QU} (hl : us.length = 0) (h : wS (Cs T k) b19 ⟨fun _ M1 => ∃ M2, Sub M2 M1 ∧ Q .non M2, fun u M1 => ∃ M2, Sub M2 M1 ∧ Q u M2, fun _ _ => False, fun _ _ => False⟩ (startU 0 us) M) : Cs T (k + 1) 19 us M Q := ⟨d19, rfl, hl, h⟩
theorem cs20 {k : Nat} {us : List U} {M : Hm} {Q : QU} (hl : us.length = 0) (h : wS (Cs T k) b20 ⟨fun _ M1 => ∃ M2, Sub M2 M1 ∧ Q .non M2, fun u M1 => ∃ M2, Sub M2 M1 ∧ Q u M2, fun _ _ => False, fun _ _ => False⟩ (startU 0 us) M) : Cs T (k + 1) 20 us M Q := ⟨d20, rfl, hl, h⟩
theorem cs21 {k : Nat} {us : List U} {M : Hm} {Q : QU} (hl : us.length = 0) (h : wS (Cs T k) b21 ⟨fun _ M1 => ∃ M2, Sub M2 M1 ∧ Q .non M2, fun u M1 => ∃ M2, Sub M2 M1 ∧ Q u M2, fun _ _ => False, fun _ _ => False⟩ (startU 0 us) M) : Cs T (k + 1) 21 us M Q := ⟨d21, rfl, hl, h⟩
theorem cs22 {k : Nat} {us : List U} {M : Hm} {Q : QU} (hl : us.length = 5) (h : wS (Cs T k) b22 ⟨fun _ M1 => ∃ M2, Sub M2 M1 ∧ Q .non M2, fun u M1 => ∃ M2, Sub M2 M1 ∧ Q u M2, fun _ _ => False, fun _ _ => False⟩ (startU 12 us) M) : Cs T (k + 1) 22 us M Q := ⟨d22, rfl, hl, h⟩
theorem cs23 {k : Nat} {us : List U} {M : Hm} {Q : QU} (hl : us.length = 5) (h : wS (Cs T k) b23 ⟨fun _ M1 => ∃ M2, Sub M2 M1 ∧ Q .non M2, fun u M1 => ∃ M2, Sub M2 M1 ∧ Q u M2, fun _ _ => False, fun _ _ => False⟩ (startU 16 us) M) : Cs T (k + 1) 23 us M Q := ⟨d23, rfl, hl, h⟩
theorem cs24 {k : Nat} {us : List U} {M : Hm} {Q : QU} (hl : us.length = 5) (h : wS (Cs T k) b24 ⟨fun _ M1 => ∃ M2, Sub M2 M1 ∧ Q .non M2, fun u M1 => ∃ M2, Sub M2 M1 ∧ Q u M2, fun _ _ => False, fun _ _ => False⟩ (startU 12 us) M) : Cs T (k + 1) 24 us M Q := ⟨d24, rfl, hl, h⟩
theorem cs25 {k : Nat} {us : List U} {M : Hm} {Q : QU} (hl : us.length = 1) (h : wS (Cs T k) b25 ⟨fun _ M1 => ∃ M2, Sub M2 M1 ∧ Q .non M2, fun u M1 => ∃ M2, Sub M2 M1 ∧ Q u M2, fun _ _ => False, fun _ _ => False⟩ (startU 1 us) M) : Cs T (k + 1) 25 us M Q := ⟨d25, rfl, hl, h⟩
theorem cs26 {k : Nat} {us : List U} {M : Hm} {Q : QU} (hl : us.length = 1) (h : wS (Cs T k) b26 ⟨fun _ M1 => ∃ M2, Sub M2 M1 ∧ Q .non M2, fun u M1 => ∃ M2, Sub M2 M1 ∧ Q u M2, fun _ _ => False, fun _ _ => False⟩ (startU 2 us) M) : Cs T (k + 1) 26 us M Q := ⟨d26, rfl, hl, h⟩
theorem cs27 {k : Nat} {us : List U} {M : Hm} {Q : QU} (hl : us.length = 1) (h : wS (Cs T k) b27 ⟨fun _ M1 => ∃ M2, Sub M2 M1 ∧ Q .non M2, fun u M1 => ∃ M2, Sub M2 M1 ∧ Q u M2, fun _ _ => False, fun _ _ => False⟩ (startU 5 us) M) : Cs T (k + 1) 27 us M Q := ⟨d27, rfl, hl, h⟩
theorem cs28 {k : Nat} {us : List U} {M : Hm} {Q : QU} (hl : us.length = 1) (h : wS (Cs T k) b28 ⟨fun _ M1 => ∃ M2, Sub M2 M1 ∧ Q .non M2, fun u M1 => ∃ M2, Sub M2 M1 ∧ Q u M2, fun _ _ => False, fun _ _ => False⟩ (startU 4 us) M) : Cs T (k + 1) 28 us M Q := ⟨d28, rfl, hl, h⟩
theorem cs29 {k : Nat} {us : List U} {M : Hm} {Q : QU} (hl : us.length = 2) (h : wS (Cs T k) b29 ⟨fun _ M1 => ∃ M2, Sub M2 M1 ∧ Q .non M2, fun u M1 => ∃ M2, Sub M2 M1 ∧ Q u M2, fun _ _ => False, fun _ _ => False⟩ (startU 10 us) M) : Cs T (k + 1) 29 us M Q := ⟨d29, rfl, hl, h⟩
theorem cs30 {k : Nat} {us : List U} {M : Hm} {Q : QU} (hl : us.length = 5) (h : wS (Cs T k) b30 ⟨fun _ M1 => ∃ M2, Sub M2 M1 ∧ Q .non M2, fun u M1 => ∃ M2, Sub M2 M1 ∧ Q u M2, fun _ _ => False, fun _ _ => False⟩ (startU 10 us) M) : Cs T (k + 1) 30 us M Q := ⟨d30, rfl, hl, h⟩
theorem cs31 {k : Nat} {us : List U} {M : Hm} {Q : QU} (hl : us.length = 2) (h : wS (Cs T k) b31 ⟨fun _ M1 => ∃ M2, Sub M2 M1 ∧ Q .non M2, fun u M1 => ∃ M2, Sub M2 M1 ∧ Q u M2, fun _ _ => False, fun _ _ => False⟩ (startU 5 us) M) : Cs T (k + 1) 31 us M Q := ⟨d31, rfl, hl, h⟩
theorem cs32 {k : Nat} {us : List U} {M : Hm} {Q : QU} (hl : us.length = 1) (h : wS (Cs T k) b32 ⟨fun _ M1 => ∃ M2, Sub M2 M1 ∧ Q .non M2, fun u M1 => ∃ M2, Sub M2 M1 ∧ Q u M2, fun _ _ => False, fun _ _ => False⟩ (startU 3 us) M) : Cs T (k + 1) 32 us M Q := ⟨d32, rfl, hl, h⟩
theorem cs33 {k : Nat} {us : List U} {M : Hm} {Q : QU} (hl : us.length = 3) (h : wS (Cs T k) b33 ⟨fun _ M1 => ∃ M2, Sub M2 M1 ∧ Q .non M2, fun u M1 => ∃ M2, Sub M2 M1 ∧ Q u M2, fun _ _ => False, fun _ _ => False⟩ (startU 4 us) M) : Cs T (k + 1) 33 us M Q := ⟨d33, rfl, hl, h⟩
theorem cs34 {k : Nat} {us : List U} {M : Hm} {Q : QU} (hl : us.length = 4) (h : wS (Cs T k) b34 ⟨fun _ M1 => ∃ M2, Sub M2 M1 ∧ Q .non M2, fun u M1 => ∃ M2, Sub M2 M1 ∧ Q u M2, fun _ _ => False, fun _ _ => False⟩ (startU 5 us) M) : Cs T (k + 1) 34 us M Q := ⟨d34, rfl, hl, h⟩
theorem cs35 {k : Nat} {us : List U} {M : Hm} {Q : QU} (hl : us.length = 1) (h : wS (Cs T k) b35 ⟨fun _ M1 => ∃ M2, Sub M2 M1 ∧ Q .non M2, fun u M1 => ∃ M2, Sub M2 M1 ∧ Q u M2, fun _ _ => False, fun _ _ => False⟩ (startU 3 us) M) : Cs T (k + 1) 35 us M Q := ⟨d35, rfl, hl, h⟩
theorem cs36 {k : Nat} {us : List U} {M : Hm} {Q : QU} (hl : us.length = 1) (h : wS (Cs T k) b36 ⟨fun _ M1 => ∃ M2, Sub M2 M1 ∧ Q .non M2, fun u M1 => ∃ M2, Sub M2 M1 ∧ Q u M2, fun _ _ => False, fun _ _ => False⟩ (startU 7 us) M) : Cs T (k + 1) 36 us M Q := ⟨d36, rfl, hl, h⟩
theorem cs37 {k : Nat} {us : List U} {M : Hm} {Q : QU} (hl : us.length = 3) (h : wS (Cs T k) b37 ⟨fun _ M1 => ∃ M2, Sub M2 M1 ∧ Q .non M2, fun u M1 => ∃ M2, Sub M2 M1 ∧ Q u M2, fun _ _ => False, fun _ _ => False⟩ (startU 8 us) M) : Cs T (k + 1) 37 us M Q := ⟨d37, rfl, hl, h⟩
theorem cs38 {k : Nat} {us : List U} {M : Hm} {Q : QU} (hl : us.length = 1) (h : wS (Cs T k) b38 ⟨fun _ M1 => ∃ M2, Sub M2 M1 ∧ Q .non M2, fun u M1 => ∃ M2, Sub M2 M1 ∧ Q u M2, fun _ _ => False, fun _ _ => False⟩ (startU 10 us) M) : Cs T (k + 1) 38 us M Q := ⟨d38, rfl, hl, h⟩
theorem cx10 {k : Nat} {us : List U} {M : Hm} {Q : QU} {Ex : XU} (hl : us.length = 2) (h : wS ⟨CsX T k, fun c dx _ M1 => Ex c dx M1, none⟩ b10 ⟨fun _ M1 => ∃ M2, Sub M2 M1 ∧ Q .non M2, fun u M1 => ∃ M2, Sub M2 M1 ∧ Q u M2, fun _ _ => False, fun _ _ => False⟩ (startU 4 us) M) : (Cs T (k + 1)).x 10 us M Q Ex := ⟨d10, rfl, hl, h⟩
theorem cx11 {k : Nat} {us : List U} {M : Hm} {Q : QU} {Ex : XU} (hl : us.length = 3) (h : wS ⟨CsX T k, fun c dx _ M1 => Ex c dx M1, none⟩ b11 ⟨fun _ M1 => ∃ M2, Sub M2 M1 ∧ Q .non M2, fun u M1 => ∃ M2, Sub M2 M1 ∧ Q u M2, fun _ _ => False, fun _ _ => False⟩ (startU 7 us) M) : (Cs T (k + 1)).x 11 us M Q Ex := ⟨d11, rfl, hl, h⟩
theorem cx13 {k : Nat} {us : List U} {M : Hm} {Q : QU} {Ex : XU} (hl : us.length = 1) (h : wS ⟨CsX T k, fun c dx _ M1 => Ex c dx M1, none⟩ b13 ⟨fun _ M1 => ∃ M2, Sub M2 M1 ∧ Q .non M2, fun u M1 => ∃ M2, Sub M2 M1 ∧ Q u M2, fun _ _ => False, fun _ _ => False⟩ (startU 5 us) M) : (Cs T (k + 1)).x 13 us M Q Ex := ⟨d13, rfl, hl, h⟩
/-! ### the head -/
abbrev R : PySem.W.OpenRow := PySem.W.OpenLaw.row PySem.Challenge.rw_holdstill_k02_worlds_and_bodies
abbrev hk : PySem.W.Hook := hookX 4 G sts
def ob (s : PySem.W.SharedT) : AlX := obsXG 4 G (HandSHeadRun.getT s)
theorem ob_eq (s : PySem.W.SharedT) : ob s = hk.obs s.abs := obsXG_eq (HandSHeadRun.getT_eq s)
def loose : List PySem.Str := (["HoldError", "TooMany", "NoRule", "BadBody", "RESERVED", "LETTERS", "MOST_KINDS", "MOST_SOURCES", "MOST_RULES", "MOST_NODES", "MOST_PATH", "MOST_WORLDS", "is_int", "is_name", "is_put_content", "are_names", "next_bodies", "check_body", "limits_of", "nodes_of", "are_rules", "is_book", "body_of", "with_body", "count_worlds", "worlds", "_law_begin", "_law_draw", "_law_pick", "_law_rare", "_law_shuffled", "_law_files", "_law_sources", "_law_rules", "_law_body", "_law_tidy_book", "_law_wild_book", "_law_bodies_of", "_law_without_asks", "_law_put_files", "_law_nodes", "_law_spoilt_book", "_law_book", "_law_longer", "_law_worlds", "_law_with_body", "_law_error", "_law_many_worlds", "_law_deep", "_law_other_body"] : List String).map Str.ofString
theorem run (w : World) : HandSHeadRun.RunEq R (PySem.W.view R.prog [53]) hk ob 9000 loose w := by
  intro os
  kernel_rfl
end K02

set_option maxHeartbeats 400000
/-! traces, bodies; what their readers tell -/
namespace Pl
open PySem L2
inductive Ev where | ask (r : Str) | put (f : Str) (c : Int) | see (f : Str) (c : Int)
def Ev.ok : Ev → Prop
  | .ask r => okS r = true
  | .put f _ => okS f = true
  | .see f _ => okS f = true
def pairU (p : U × U) : U := .tup [p.1, p.2]
end Pl

set_option maxHeartbeats 400000
/-! the same told by a law; bodies and walks -/
namespace Pl
open PySem L2
end Pl

set_option maxHeartbeats 400000
/-! bodies and walks; asks -/
namespace Pl
open PySem L2
inductive Bd where | done | put (f : Str) (c : Int) (b : Bd) | ask (r : Str) (b : Bd) | see (f : Str) (bs : List Bd)
mutual
def encB : Bd → U
  | .done => .tup [.str "done"]
  | .put f c b => .tup [.str "put", .str f, .int c, encB b]
  | .ask r b => .tup [.str "ask", .str r, encB b]
  | .see f bs => .tup [.str "see", .str f, .tup (encBs bs)]
def encBs : List Bd → List U
  | [] => []
  | b :: bs => encB b :: encBs bs
end
theorem encBs_map : ∀ bs : List Bd, encBs bs = bs.map encB
  | [] => rfl
  | b :: bs => by rw [encBs, encBs_map bs]; rfl
inductive BW (n : Nat) : Bd → Prop where
  | done : BW n .done
  | put {f c b} : okS f = true → BW n b → BW n (.put f c b)
  | ask {r b} : okS r = true → BW n b → BW n (.ask r b)
  | see {f bs} : okS f = true → bs.length = n → (∀ b ∈ bs, BW n b) → BW n (.see f bs)
/-! asks -/
end Pl

set_option maxHeartbeats 400000
/-! bodies that are drawn -/
namespace Pl
open PySem L2
/-- _law_body: d, spec, asked, left, deep, k, file, content, at, pool, share, bodies -/
def B_law_body (law_body : Nat) (law_pick : Nat) (law_draw : Nat) : S := (.seq (.ifs (.ors (.cons (.cmp .lt (.var 3) (.int 2)) (.cons (.cmp .gt (.var 4) (.int 8)) .nil))) (.seq (.ret (.tup (.cons (.str "done") .nil))) .skip) .skip) (.seq (.asg 5 (.call law_draw (.cons (.var 0) (.cons (.int 9) .nil)))) (.seq (.ifs (.ands (.cons (.cmp .eq (.var 5) (.int 4)) (.cons (.cmp .gt (.var 4) (.int 0)) .nil))) (.seq (.ret (.tup (.cons (.str "done") .nil))) .skip) .skip) (.seq (.ifs (.ands (.cons (.cmp .lt (.var 5) (.int 3)) (.cons (.ix (.var 1) (.int 2)) .nil))) (.seq (.asg 6 (.call law_pick (.cons (.var 0) (.cons (.ix (.var 1) (.int 2)) .nil)))) (.seq (.asg 7 (.call law_draw (.cons (.var 0) (.cons (.ix (.var 1) (.int 0)) .nil)))) (.seq (.ret (.tup (.cons (.str "put") (.cons (.var 6) (.cons (.var 7) (.cons (.call law_body (.cons (.var 0) (.cons (.var 1) (.cons (.var 2) (.cons (.bin .sub (.var 3) (.int 1)) (.cons (.bin .add (.var 4) (.int 1)) .nil)))))) .nil)))))) .skip))) .skip) (.seq (.ifs (.ands (.cons (.cmp .lt (.var 5) (.int 6)) (.cons (.ix (.var 1) (.int 4)) .nil))) (.seq (.asg 8 (.call law_draw (.cons (.var 0) (.cons (.blt .len (.cons (.ix (.var 1) (.int 4)) .nil)) .nil)))) (.seq (.ret (.tup (.cons (.str "ask") (.cons (.ix (.ix (.var 1) (.int 4)) (.var 8)) (.cons (.call law_body (.cons (.var 0) (.cons (.var 1) (.cons (.bin .add (.var 2) (.lst (.cons (.var 8) .nil))) (.cons (.bin .sub (.var 3) (.int 1)) (.cons (.bin .add (.var 4) (.int 1)) .nil)))))) .nil))))) .skip)) .skip) (.seq (.asg 9 (.bin .add (.blt .list (.cons (.ix (.var 1) (.int 1)) .nil)) (.blt .list (.cons (.ix (.var 1) (.int 5)) .nil)))) (.seq (.for_ (.one 8) (.iSeq (.var 2)) (.seq (.expr (.mth .extend (.var 9) (.cons (.ix (.ix (.var 1) (.int 3)) (.var 8)) .nil))) .skip)) (.seq (.ifs (.not (.var 9)) (.seq (.ret (.tup (.cons (.str "done") .nil))) .skip) .skip) (.seq (.asg 6 (.call law_pick (.cons (.var 0) (.cons (.var 9) .nil)))) (.seq (.asg 10 (.bin .add (.bin .fdiv (.bin .sub (.var 3) (.int 1)) (.bin .add (.ix (.var 1) (.int 0)) (.int 1))) (.int 1))) (.seq (.asg 11 (.lst .nil)) (.seq (.for_ (.one 7) (.iRange (.bin .add (.ix (.var 1) (.int 0)) (.int 1))) (.seq (.expr (.mth .append (.var 11) (.cons (.call law_body (.cons (.var 0) (.cons (.var 1) (.cons (.var 2) (.cons (.var 10) (.cons (.bin .add (.var 4) (.int 1)) .nil)))))) .nil))) .skip)) (.seq (.ret (.tup (.cons (.str "see") (.cons (.var 6) (.cons (.blt .tuple (.cons (.var 11) .nil)) .nil))))) .skip)))))))))))))
/-- a body with as many branches as n, its puts, asks and sees as told, no path longer than the number -/
inductive BP (n : Nat) (pp : Str → Int → Prop) (pa ps : Str → Prop) : Nat → Bd → Prop where
  | done {k} : BP n pp pa ps k .done
  | put {k f c b} : pp f c → BP n pp pa ps k b → BP n pp pa ps (k + 1) (.put f c b)
  | ask {k r b} : pa r → BP n pp pa ps k b → BP n pp pa ps (k + 1) (.ask r b)
  | see {k f bs} : ps f → bs.length = n → (∀ b ∈ bs, BP n pp pa ps k b) → BP n pp pa ps (k + 1) (.see f bs)
/-- how many nodes -/
def sz : Bd → Nat
  | .done => 1
  | .put _ _ b => 1 + sz b
  | .ask _ b => 1 + sz b
  | .see _ bs => 1 + szs bs
where szs : List Bd → Nat
  | [] => 0
  | b :: bs => sz b + szs bs
/-- a body out of so much room -/
inductive BN (n : Nat) : Int → Bd → Prop where
  | done {l} : BN n l .done
  | put {l f c b} : 2 ≤ l → BN n (l - 1) b → BN n l (.put f c b)
  | ask {l r b} : 2 ≤ l → BN n (l - 1) b → BN n l (.ask r b)
  | see {l f bs} : 2 ≤ l → bs.length = n + 1 → (∀ b ∈ bs, BN n ((l - 1) / ((n : Int) + 1) + 1) b) → BN n l (.see f bs)
def StrsAt (M : Hm) (p : Addr × Addr) (r : Addr) (P : Str → Prop) (l : List Str) : Prop := r ≠ p.1 ∧ l.length ≤ 100 ∧ (∀ x ∈ l, P x) ∧ M r = some (.lst (l.map U.str))
theorem StrsAt.fr {M M' : Hm} {p : Addr × Addr} {r : Addr} {P : Str → Prop} {l : List Str} (h : StrsAt M p r P l) (f : Fr p M M') : StrsAt M' p r P l := ⟨h.1, h.2.1, h.2.2.1, f.at_ h.1 h.2.2.2⟩
theorem f_listHd {M : Hm} {Q : QU} {u : U} {l : List U} (h : u = .tup l ∨ u = .tup l) (q : ∀ a, M a = none → Q (.ref a) (um M a (.lst l))) : bltW .list [u] M Q := by
  rcases h with rfl | rfl <;> exact q
/-- what a body is drawn from -/
def SpecAt (M : Hm) (p : Addr × Addr) (s : Addr) (n : Nat) (pp pa ps : Str → Prop) : Prop := ∃ (X F A Y : List Str) (f g a y : Addr) (G : List Addr) (h0 : U),
  s ≠ p.1 ∧ M s = some (.lst [.int n, h0, .ref f, .ref g, .ref a, .ref y]) ∧ (X.length ≤ 100 ∧ (h0 = .tup (X.map U.str) ∨ h0 = .tup (X.map U.str))) ∧ (∀ x ∈ X, ps x) ∧ StrsAt M p f pp F ∧ StrsAt M p a pa A ∧ StrsAt M p y ps Y ∧
  g ≠ p.1 ∧ M g = some (.lst (G.map U.ref)) ∧ A.length ≤ G.length ∧ ∀ r ∈ G, ∃ l, StrsAt M p r ps l
theorem SpecAt.fr {M M' : Hm} {p : Addr × Addr} {s : Addr} {n : Nat} {pp pa ps : Str → Prop} (h : SpecAt M p s n pp pa ps) (fr : Fr p M M') : SpecAt M' p s n pp pa ps := by
  obtain ⟨X, F, A, Y, f, g, a, y, G, h0, h1, h2, h3, h4, h5, h6, h7, h8, h9, h10, h11⟩ := h
  exact ⟨X, F, A, Y, f, g, a, y, G, h0, h1, fr.at_ h1 h2, h3, h4, h5.fr fr, h6.fr fr, h7.fr fr, h8, fr.at_ h8 h9, h10, fun r hr => let ⟨l, hl⟩ := h11 r hr; ⟨l, hl.fr fr⟩⟩
/-- which places are asked for so far -/
def AskedAt (M : Hm) (p : Addr × Addr) (s q : Addr) (deep : Int) : Prop := ∃ (ats : List Nat) (v0 v1 v2 v4 v5 : U) (g : Addr) (G : List Addr), q ≠ p.1 ∧ M q = some (.lst (ats.map fun i => U.int (i : Nat))) ∧ ats.length ≤ deep ∧ M s = some (.lst [v0, v1, v2, .ref g, v4, v5]) ∧ M g = some (.lst (G.map U.ref)) ∧ s ≠ p.1 ∧ g ≠ p.1 ∧ ∀ i ∈ ats, i < G.length
theorem AskedAt.fr {M M' : Hm} {p : Addr × Addr} {s q : Addr} {deep : Int} (h : AskedAt M p s q deep) (fr : Fr p M M') : AskedAt M' p s q deep := by
  obtain ⟨ats, v0, v1, v2, v4, v5, g, G, h1, h2, h3, h4, h5, h6, h7, h8⟩ := h
  exact ⟨ats, v0, v1, v2, v4, v5, g, G, h1, fr.at_ h1 h2, h3, fr.at_ h6 h4, fr.at_ h7 h5, h6, h7, h8⟩
theorem AskedAt.up {M : Hm} {p : Addr × Addr} {s q : Addr} {deep : Int} (h : AskedAt M p s q deep) : AskedAt M p s q (deep + 1) := by
  obtain ⟨ats, v0, v1, v2, v4, v5, g, G, h1, h2, h3, h4, h5, h6, h7, h8⟩ := h
  exact ⟨ats, v0, v1, v2, v4, v5, g, G, h1, h2, by omega, h4, h5, h6, h7, h8⟩
def BodyC (C : CE) (f : Nat) (deep : Int) : Prop := ∀ (M : Hm) (p : Addr × Addr) (s q : Addr) (n : Nat) (pp pa ps : Str → Prop) (left : Int) (j : Nat) (Q : QU), deep + j = 9 → 0 < n → n < 100 → Dr M p → SpecAt M p s n pp pa ps → AskedAt M p s q deep →
  (∀ b M', BP (n + 1) (fun f c => pp f ∧ 0 ≤ c ∧ c < n) pa ps j b → BN n left b → Dr M' p → Fr p M M' → Q (encB b) M') → C f [.ref p.1, .ref s, .ref q, .int left, .int deep] M Q
theorem body_ok {C : CE} {fb fp fd : Nat} {deep : Int} (hd : DrawC C fd) (hp : PickC C fp) (hdeep : 0 ≤ deep) (hb : deep ≤ 8 → BodyC C fb (deep + 1)) {nx bk ct : SU → Hm → Prop} {rt : QU} {M : Hm} {p : Addr × Addr} {s q : Addr} {n : Nat} {pp pa ps : Str → Prop} {left : Int} {j : Nat} (hj : deep + j = 9) (hn0 : 0 < n) (hn : n < 100) (d : Dr M p) (hs : SpecAt M p s n pp pa ps) (ha : AskedAt M p s q deep)
    (hq : ∀ b M', BP (n + 1) (fun f c => pp f ∧ 0 ≤ c ∧ c < n) pa ps j b → BN n left b → Dr M' p → Fr p M M' → rt (encB b) M') :
    wS C (B_law_body fb fp fd) ⟨nx, rt, bk, ct⟩ (startU 12 [.ref p.1, .ref s, .ref q, .int left, .int deep]) M := by
  have donE : ∀ M', Dr M' p → Fr p M M' → rt (.tup [.str "done"]) M' := fun M' d' fr => hq .done M' .done .done d' fr
  unfold B_law_body
  (repeat decreasing_trivial_pre_omega)
  refine i_ifd (fun h1 => ?_) (fun h1 => ?_)
  · (repeat decreasing_trivial_pre_omega)
    exact donE M d (Fr.refl _ _)
  (repeat decreasing_trivial_pre_omega)
  refine i_ifd (fun h2 => ?_) (fun h2 => ?_)
  · (repeat decreasing_trivial_pre_omega)
    exact donE M d (Fr.refl _ _)
  have hb := hb (by omega)
  obtain ⟨j, rfl⟩ : ∃ i, j = i + 1 := ⟨j - 1, by omega⟩
  (repeat decreasing_trivial_pre_omega)
  refine hd.lt M p 9 _ d (by decide) (by decide) fun r M1 hr d1 fr1 => ?_
  have hs1 := hs.fr fr1
  have ha1 := ha.fr fr1
  obtain ⟨X, F, A, Y, f, g, a, y, G, h0, s1, s2, ⟨s3, sh⟩, s4, s5, s6, s7, s8, s9, s10, s11⟩ := hs1
  obtain ⟨f1, f2, f3, f4⟩ := s5
  (repeat decreasing_trivial_pre_omega)
  apply rest_of
  · intro rest
    by_cases h3 : ((r : Nat) : Int) = 4
    · (repeat decreasing_trivial_pre_omega)
      by_cases h4 : 0 < deep
      · (repeat decreasing_trivial_pre_omega)
        exact donE M1 d1 fr1
      · (repeat decreasing_trivial_pre_omega)
        exact rest.out
    · (repeat decreasing_trivial_pre_omega)
      exact rest.out
  (repeat decreasing_trivial_pre_omega)
  apply rest_of
  · intro rest
    by_cases h3 : ((r : Nat) : Int) < 3
    · (repeat decreasing_trivial_pre_omega)
      by_cases h4 : F.map U.str = []
      · (repeat decreasing_trivial_pre_omega)
        exact rest.out
      · (repeat decreasing_trivial_pre_omega)
        refine hp _ _ _ (F.map U.str) _ d1 (.inr ⟨f, rfl, f1, f4⟩) h4 (by rw [List.length_map]; omega) fun x M2 hx d2 fr2 => ?_
        rw [List.mem_map] at hx
        obtain ⟨fl, hfl, rfl⟩ := hx
        have s2' := fr2.at_ s1 s2
        (repeat decreasing_trivial_pre_omega)
        refine hd.lt _ _ n _ d2 hn0 (by omega) fun c M3 hc d3 fr3 => ?_
        (repeat decreasing_trivial_pre_omega)
        refine hb _ _ _ _ n pp pa ps _ j _ (by omega) hn0 hn d3 (((hs.fr fr1).fr fr2).fr fr3) ?_ fun b M4 hb4 hn4 d4 fr4 => ?_
        · exact (((ha.fr fr1).fr fr2).fr fr3).up
        (repeat decreasing_trivial_pre_omega)
        have := hq (.put fl c b) M4 (.put ⟨f3 _ hfl, by omega, by omega⟩ hb4) (.put (by omega) hn4) d4 (((fr1.trans fr2).trans fr3).trans fr4)
        simpa only [encB] using this
    · (repeat decreasing_trivial_pre_omega)
      exact rest.out
  (repeat decreasing_trivial_pre_omega)
  obtain ⟨ats, v0, v1, v2, v4, v5, g', G', a1, a2, a3, a4, a5, a6, a7, a8⟩ := ha1
  have eg := s2.symm.trans a4
  simp only [Option.some.injEq, MO.lst.injEq, List.cons.injEq, U.ref.injEq] at eg
  simp only [and_true] at eg
  obtain ⟨rfl, rfl, rfl, rfl, rfl, rfl⟩ := eg
  have eG := s9.symm.trans a5
  simp only [Option.some.injEq, MO.lst.injEq] at eG
  obtain ⟨y1, y2, y3, y4⟩ := s7
  apply rest_of
  · intro rest
    by_cases h3 : ((r : Nat) : Int) < 6
    · (repeat decreasing_trivial_pre_omega)
      obtain ⟨b1, b2, b3, b4⟩ := s6
      by_cases h4 : A.map U.str = []
      · (repeat decreasing_trivial_pre_omega)
        exact rest.out
      · (repeat decreasing_trivial_pre_omega)
        rw [List.length_map]
        have hA : 0 < A.length := List.length_pos_iff.mpr fun z => h4 (by rw [z]; rfl)
        refine hd.lt _ _ _ _ d1 hA (by omega) fun i M2 hi d2 fr2 => ?_
        have s2' := fr2.at_ s1 s2
        have b4' := fr2.at_ b1 b4
        have a2' := fr2.at_ a1 a2
        (repeat decreasing_trivial_pre_omega)
        refine x_lst b4' (atI_nat (by rw [List.length_map]; exact hi)) ?_
        (repeat decreasing_trivial_pre_omega)
        intro q1 hq1
        refine o_addL (um_old a2' hq1) um_same (by simp [LIM]; omega) ?_
        intro q2 hq2
        (repeat decreasing_trivial_pre_omega)
        have sb : Sub M2 (um (um M2 q1 (.lst [.int (i : Nat)])) q2 (.lst ((ats.map fun i => U.int (i : Nat)) ++ [.int (i : Nat)]))) := sub_um (sub_um (Sub.refl _) hq1) (um_none hq2)
        have fr3 : Fr p M1 _ := fr2.trans (sb.fr (p := p))
        have nq2 : q2 ≠ p.1 := d2.ne (um_none hq2)
        refine hb _ _ _ _ n pp pa ps _ j _ (by omega) hn0 hn (d2.sub sb) ((hs.fr fr1).fr fr3) ⟨ats ++ [i], .int n, h0, .ref f, .ref a, .ref y, g, G, nq2, ?_, ?_, ?_, ?_, a6, a7, ?_⟩ fun b M4 hb4 hn4 d4 fr4 => ?_
        · rw [um_same, List.map_append]; rfl
        · simp; omega
        · exact sb _ _ s2'
        · exact sb _ _ (fr2.at_ a7 s9)
        · intro j hj
          rcases List.mem_append.mp hj with hj | hj
          · have := a8 j hj
            have e2 : G'.length = G.length := by have := congrArg List.length eG; simpa using this.symm
            omega
          · rw [List.mem_singleton] at hj
            omega
        (repeat decreasing_trivial_pre_omega)
        rw [List.getElem_map]
        have := hq (.ask A[i] b) M4 (.ask (b3 _ (List.getElem_mem hi)) hb4) (.ask (by omega) hn4) d4 ((fr1.trans fr3).trans fr4)
        simpa only [encB] using this
    · (repeat decreasing_trivial_pre_omega)
      exact rest.out
  (repeat decreasing_trivial_pre_omega)
  refine f_listHd sh ?_
  intro x1 hx1
  (repeat decreasing_trivial_pre_omega)
  intro x2 hx2
  refine o_addL (um_old um_same hx2) um_same (by simp [LIM]; omega) ?_
  intro x3 hx3
  (repeat decreasing_trivial_pre_omega)
  have c1 := um_none hx2
  have c2 := um_none hx3
  have dB : Dr (um (um M1 x1 (.lst (X.map U.str))) x2 (.lst (Y.map U.str))) p := (d1.upd hx1).upd hx2
  have nx3 : x3 ≠ p.1 := dB.ne hx3
  have nx3' : x3 ≠ p.2 := dB.ne2 hx3
  have frB : Fr p M1 (um (um M1 x1 (.lst (X.map U.str))) x2 (.lst (Y.map U.str))) := (sub_um (sub_um (Sub.refl _) hx1) c1).fr
  generalize um (um M1 x1 (.lst (X.map U.str))) x2 (.lst (Y.map U.str)) = MB at hx3 c2 dB frB ⊢
  have G9 := frB.at_ s8 s9
  have S2 := frB.at_ s1 s2
  have A2 := frB.at_ a1 a2
  have elen : G'.length = G.length := by have := congrArg List.length eG; simpa using this.symm
  refine forL_by (enc := fun i : Nat => U.int (i : Nat)) (fun don rest σ M' => ∃ u8 pool, σ = [some (.ref p.1), some (.ref s), some (.ref q), some (.int left), some (.int deep), some (.int r), none, none, u8, some (.ref x3), none, none] ∧ M' = um MB x3 (.lst (pool.map U.str)) ∧ pool.length ≤ 200 + 100 * don.length ∧ ∀ x ∈ pool, ps x) ats ⟨_, X ++ Y, rfl, by rw [List.map_append], by simp; omega, fun x hx => by
    rcases List.mem_append.mp hx with hx | hx
    · exact s4 x hx
    · exact y3 x hx⟩ ?_ ?_
  · intro don i rest σ M' k e ⟨u8, pool, e1, e2, e3, e4⟩ hk
    subst e1 e2
    have hi : i < G.length := by have := a8 i (by rw [← e]; simp); omega
    obtain ⟨l, l1, l2, l3, l4⟩ := s11 G[i] (List.getElem_mem hi)
    have L4 := frB.at_ l1 l4
    (repeat decreasing_trivial_pre_omega)
    refine x_lst (um_old G9 hx3) (atI_nat (by rw [List.length_map]; exact hi)) ?_
    rw [List.getElem_map]
    (repeat decreasing_trivial_pre_omega)
    have hdl : don.length ≤ 9 := by
      have : don.length + rest.length + 1 = ats.length := by rw [← e]; simp; omega
      omega
    refine m_ext um_same (um_old L4 hx3) (by simp [LIM]; omega) ?_
    rw [um_um]
    (repeat decreasing_trivial_pre_omega)
    refine hk _ _ (um_old A2 hx3) ⟨_, pool ++ l, rfl, by rw [List.map_append], by simp; omega, fun x hx => ?_⟩
    rcases List.mem_append.mp hx with hx | hx
    · exact e4 x hx
    · exact l3 x hx
  intro σ M' ⟨u8, pool, e1, e2, e3', e4'⟩
  subst e1 e2
  (repeat decreasing_trivial_pre_omega)
  have dP : Dr (um MB x3 (.lst (pool.map U.str))) p := dB.upd2 nx3 nx3'
  have frP : Fr p M (um MB x3 (.lst (pool.map U.str))) := (fr1.trans frB).upd (fr1.non nx3 (frB.non nx3 hx3))
  have frP1 : Fr p M1 (um MB x3 (.lst (pool.map U.str))) := frB.upd (frB.non nx3 hx3)
  by_cases h5 : pool.map U.str = []
  · (repeat decreasing_trivial_pre_omega)
    exact donE _ dP frP
  (repeat decreasing_trivial_pre_omega)
  refine hp _ _ _ (pool.map U.str) _ dP (.inr ⟨x3, rfl, nx3, um_same⟩) h5 (by rw [List.length_map]; omega) fun x M2 hx d2 fr2 => ?_
  rw [List.mem_map] at hx
  obtain ⟨fl, hfl, rfl⟩ := hx
  have S2' := (frP1.trans fr2).at_ s1 s2
  have FR := frP.trans fr2
  (repeat decreasing_trivial_pre_omega)
  intro b0 hb0
  have nb := d2.ne hb0
  have nb' := d2.ne2 hb0
  have hMb : M b0 = none := FR.non nb hb0
  (repeat decreasing_trivial_pre_omega)
  refine ⟨by simp [LIM]; omega, by simp [LIM]; omega, ?_⟩
  rw [show ((n : Int) + 1) = ((n + 1 : Nat) : Int) by omega, rngU_nat]
  refine forL_by (enc := fun i : Nat => U.int (i : Nat)) (fun don rest σ M' => ∃ u7 bs, σ = [some (.ref p.1), some (.ref s), some (.ref q), some (.int left), some (.int deep), some (.int r), some (.str fl), u7, u8, some (.ref x3), some (.int ((left - 1) / ((n : Int) + 1) + 1)), some (.ref b0)] ∧ bs.length = don.length ∧ (∀ b ∈ bs, BP (n + 1) (fun f c => pp f ∧ 0 ≤ c ∧ c < n) pa ps j b ∧ BN n ((left - 1) / ((n : Int) + 1) + 1) b) ∧ Dr M' p ∧ Fr p M M' ∧ M' b0 = some (.lst (bs.map encB))) (List.range (n + 1)) ⟨_, [], rfl, rfl, (by intro b hb; cases hb), d2.upd2 nb nb', FR.upd hMb, um_same⟩ ?_ ?_
  · intro don i rest σ M' k e ⟨u7, bs, e1, e2, e3, e4, e5, e6⟩ hk
    subst e1
    (repeat decreasing_trivial_pre_omega)
    refine hb _ _ _ _ n pp pa ps _ j _ (by omega) hn0 hn e4 (hs.fr e5) (ha.fr e5).up fun b M4 hb4 hn4 d4 fr4 => ?_
    have e6' := fr4.at_ nb e6
    have hlen : don.length < 101 := by
      have : don.length + rest.length + 1 = n + 1 := by rw [← List.length_range (n := n + 1), ← e]; simp; omega
      omega
    (repeat decreasing_trivial_pre_omega)
    refine m_app e6' (by simp [LIM]; omega) ?_
    (repeat decreasing_trivial_pre_omega)
    refine hk _ _ trivial ⟨_, bs ++ [b], rfl, by simp; omega, fun c hc => ?_, d4.upd2 nb nb', (e5.trans fr4).upd hMb, by rw [um_same, List.map_append]; rfl⟩
    rcases List.mem_append.mp hc with hc | hc
    · exact e3 c hc
    · rw [List.mem_singleton] at hc; subst hc; exact ⟨hb4, hn4⟩
  intro σ M' ⟨u7, bs, e1, e2, e3, e4, e5, e6⟩
  subst e1
  (repeat decreasing_trivial_pre_omega)
  have := hq (.see fl bs) M' (.see (e4' _ hfl) (by rw [e2, List.length_range]) fun b hb => (e3 b hb).1) (.see (by omega) (by rw [e2, List.length_range]) fun b hb => (e3 b hb).2) e4 e5
  simp only [encB, encBs_map] at this
  exact this
end Pl

set_option maxHeartbeats 400000
/-! walks that are drawn -/
namespace Pl
open PySem L2
end Pl

set_option maxHeartbeats 400000
/-! the laws' names and orders -/
namespace Pl
open PySem L2
/-- _law_rare: d, many -/
def B_law_rare (law_draw : Nat) : S := (.seq (.ret (.cmp .eq (.call law_draw (.cons (.var 0) (.cons (.var 1) .nil))) (.bin .fdiv (.var 1) (.int 2)))) .skip)
/-- _law_shuffled: d, row, left, found, k -/
def B_law_shuffled (law_draw : Nat) : S := (.seq (.asg 2 (.blt .list (.cons (.var 1) .nil))) (.seq (.asg 3 (.lst .nil)) (.seq (.for_ (.one 4) (.iRange (.blt .len (.cons (.var 2) .nil))) (.seq (.expr (.mth .append (.var 3) (.cons (.mth .popAt (.var 2) (.cons (.call law_draw (.cons (.var 0) (.cons (.blt .len (.cons (.var 2) .nil)) .nil))) .nil)) .nil))) .skip)) (.seq (.ret (.var 3)) .skip))))
theorem rare_ok {C : CE} {fd : Nat} (hd : DrawC C fd) {nx bk ct : SU → Hm → Prop} {rt : QU} {M : Hm} {p : Addr × Addr} {many : Nat} (d : Dr M p) (h0 : 0 < many) (h1 : many < 1073741824)
    (hq : ∀ b M', Dr M' p → Fr p M M' → rt (.bl b) M') : wS C (B_law_rare fd) ⟨nx, rt, bk, ct⟩ (startU 2 [.ref p.1, .int many]) M := by
  unfold B_law_rare
  (repeat decreasing_trivial_pre_omega)
  refine hd.lt M p many _ d h0 h1 fun r M' hr d' fr => ?_
  (repeat decreasing_trivial_pre_omega)
  exact hq _ M' d' fr
def RareC (C : CE) (f : Nat) : Prop := ∀ (M : Hm) (p : Addr × Addr) (many : Nat) (Q : QU), Dr M p → 0 < many → many < 1073741824 → (∀ b M', Dr M' p → Fr p M M' → Q (.bl b) M') → C f [.ref p.1, .int many] M Q
theorem ixN_nat {n i : Nat} (h : i < n) : ixN n (i : Int) = some i := by
  unfold ixN
  rw [if_pos (by omega), if_pos (by omega), Int.toNat_natCast]
theorem eraseIdx_perm {α : Type} : ∀ (l : List α) (i : Nat) (h : i < l.length), (l[i] :: l.eraseIdx i).Perm l
  | [], i, h => by cases h
  | x :: xs, 0, _ => by simp
  | x :: xs, i + 1, h => by
    simp only [List.getElem_cons_succ, List.eraseIdx_cons_succ]
    exact (List.Perm.swap x (xs[i]'(by simpa using h)) (xs.eraseIdx i)).trans ((eraseIdx_perm xs i (by simpa using h)).cons x)
/-- what is shuffled is a list: in some order -/
theorem shuffled_ok {C : CE} {fd : Nat} (hd : DrawC C fd) {nx bk ct : SU → Hm → Prop} {rt : QU} {M : Hm} {p : Addr × Addr} {r : Addr} {us : List U} (d : Dr M p) (hr : M r = some (.lst us)) (hl : us.length < 100000)
    (hq : ∀ q ws M', ws.Perm us → Dr M' p → Fr p M M' → q ≠ p.1 → q ≠ p.2 → M q = none → M' q = some (.lst ws) → rt (.ref q) M') : wS C (B_law_shuffled fd) ⟨nx, rt, bk, ct⟩ (startU 5 [.ref p.1, .ref r]) M := by
  unfold B_law_shuffled
  (repeat decreasing_trivial_pre_omega)
  intro x hx
  have nx1 := d.ne hx
  have nx2 := d.ne2 hx
  (repeat decreasing_trivial_pre_omega)
  intro y hy
  have hyx : y ≠ x := um_noneN hy
  have hyM := um_none hy
  have ny1 := d.ne hyM
  have ny2 := d.ne2 hyM
  (repeat decreasing_trivial_pre_omega)
  refine ⟨by unfold LIM; omega, by unfold LIM; omega, ?_⟩
  rw [rngU_nat]
  refine forL_by (enc := fun i : Nat => U.int (i : Nat)) (fun don rest σ M' => ∃ u4 left found, σ = [some (.ref p.1), some (.ref r), some (.ref x), some (.ref y), u4] ∧ Dr M' p ∧ Fr p M M' ∧ M' x = some (.lst left) ∧ M' y = some (.lst found) ∧ left.length = rest.length ∧ (found ++ left).Perm us) (List.range us.length)
    ⟨_, us, [], rfl, (d.upd hx).upd hy, ((Fr.refl _ _).upd hx).upd hyM, um_old um_same hy, um_same, by rw [List.length_range], by simp⟩ ?_ ?_
  · intro don i rest σ M' k e ⟨u4, left, found, e1, e2, e3, e4, e5, e6, e7⟩ hk
    subst e1
    have hle : left.length ≤ us.length := by
      have := e7.length_eq
      rw [List.length_append] at this
      omega
    have hfl : found.length ≤ us.length := by
      have := e7.length_eq
      rw [List.length_append] at this
      omega
    have h0 : 0 < left.length := by rw [e6]; simp
    (repeat decreasing_trivial_pre_omega)
    refine hd.lt M' p left.length _ e2 h0 (by omega) fun j M2 hj d2 fr2 => ?_
    have e4' := fr2.at_ nx1 e4
    have e5' := fr2.at_ ny1 e5
    (repeat decreasing_trivial_pre_omega)
    refine m_popAt e4' (by unfold LIM; omega) (ixN_nat hj) (List.getElem?_eq_getElem hj) ?_
    (repeat decreasing_trivial_pre_omega)
    refine m_app (us := found) (um_oth hyx e5') (by unfold LIM; omega) ?_
    (repeat decreasing_trivial_pre_omega)
    refine hk _ _ trivial ⟨_, left.eraseIdx j, found ++ [left[j]], rfl, (d2.upd2 nx1 nx2).upd2 ny1 ny2, ((e3.trans fr2).upd hx).upd hyM, um_oth hyx.symm um_same, um_same, ?_, ?_⟩
    · rw [List.length_eraseIdx, if_pos hj, e6]; simp
    · refine List.Perm.trans ?_ e7
      rw [List.append_assoc]
      exact (eraseIdx_perm left j hj).append_left found
  · intro σ M' ⟨u4, left, found, e1, e2, e3, e4, e5, e6, e7⟩
    subst e1
    have hnil : left = [] := List.eq_nil_of_length_eq_zero e6
    subst hnil
    rw [List.append_nil] at e7
    (repeat decreasing_trivial_pre_omega)
    exact hq y found M' e7 e2 e3 ny1 ny2 hyM e5
end Pl

set_option maxHeartbeats 400000
/-! makings: what they are, in plain Lean -/
namespace Pl
open PySem L2
/-! ### dicts of texts -/
def kfind {α : Type} (l : List (Str × α)) (k : Str) : Option α := (l.find? fun p => decide (p.1 = k)).map (·.2)
theorem kfind_cons {α : Type} (p : Str × α) (l : List (Str × α)) (k : Str) : kfind (p :: l) k = if p.1 = k then some p.2 else kfind l k := by
  unfold kfind
  rw [List.find?_cons]
  by_cases h : p.1 = k
  · simp [h]
  · simp [h]
theorem kfind_isSome {α : Type} {l : List (Str × α)} {k : Str} : (kfind l k).isSome = decide (k ∈ l.map (·.1)) := by
  induction l with
  | nil => rfl
  | cons p l ih =>
    rw [kfind_cons]
    by_cases h : p.1 = k
    · rw [if_pos h]; simp [h]
    · rw [if_neg h, ih]
      have h' : ¬ k = p.1 := fun z => h z.symm
      simp [h']
/-! ### what a trace lays -/
/-! ### books -/
def resL : List Str := ["kinds", "sources", "rule", "form", "see", "ask", "put", "follow", "done", "gone", "else", "end"]
def letters : Str := "abcdefghijklmnopqrstuvwxyz"
/-- a right name -/
def nameS (s : Str) : Bool := (decide (1 ≤ s.length) && decide (s.length ≤ 8)) && (!decide (s ∈ resL) && s.cps.toList.all fun c => decide (c ∈ letters.cps.toList))
def nmS (s : Str) : Bool := (okS s && nameS s) && !decide (s ∈ (["nobody", "nobodyis", "nobodys"] : List Str))
structure Bk where
  n : Nat
  heads : List Str
  rows : List (Str × Bd)
def encRow (r : Str × Bd) : U := .tup [.str r.1, encB r.2]
def encBk (b : Bk) : U := .tup [.int b.n, .tup (b.heads.map U.str), .tup (b.rows.map encRow)]
def Bk.names (b : Bk) : List Str := b.rows.map (·.1)
/-! ### well-formed -/
def BBP (b : Bk) (j : Nat) (x : Bd) : Prop := BP (b.n + 1) (fun f c => nmS f = true ∧ 0 ≤ c ∧ c < b.n) (fun r => r ∈ b.names) (fun f => nmS f = true) j x
structure BkOk (b : Bk) : Prop where
  n0 : 0 < b.n
  heads : ∀ h ∈ b.heads, nmS h = true
  rows : ∀ r ∈ b.rows, nmS r.1 = true ∧ ∃ j, BBP b j r.2
  hl : b.heads.length ≤ 100
  rl : b.rows.length ≤ 100
theorem mem_strs {f : Str} {l : List Str} : (U.str f ∈ l.map U.str) ↔ f ∈ l := by
  rw [List.mem_map]
  constructor
  · rintro ⟨g, hg, e⟩
    injection e with e
    rwa [← e]
  · intro h; exact ⟨f, h, rfl⟩
structure WdOk (b : Bk) (wd : List Int) : Prop where
  len : wd.length = b.heads.length
  val : ∀ c ∈ wd, c = -2 ∨ (-1 ≤ c ∧ c < b.n)
end Pl

set_option maxHeartbeats 2000000
/-! books that are drawn: their texts; tidy ones -/
namespace Pl
open PySem L2
/-- _law_tidy_book: d, kinds, sources, rules, nodes, files, names, heads, owned, rows, k, mine, extra, spec, order, at -/
def B_law_tidy_book (law_shuffled : Nat) (law_body : Nat) (law_rare : Nat) (law_draw : Nat) (law_sources : Nat) (law_rules : Nat) (law_files : Nat) : S := (.seq (.asg 5 (.call law_shuffled (.cons (.var 0) (.cons (.call law_files .nil) .nil)))) (.seq (.asg 6 (.slice (.call law_shuffled (.cons (.var 0) (.cons (.call law_rules .nil) .nil))) .nil (.var 3))) (.seq (.asg 7 (.blt .tuple (.cons (.slice (.call law_shuffled (.cons (.var 0) (.cons (.call law_sources .nil) .nil))) .nil (.var 2)) .nil))) (.seq (.asg 8 (.lst .nil)) (.seq (.asg 9 (.lst .nil)) (.seq (.for_ (.one 10) (.iRange (.var 3)) (.seq (.asg 11 (.ite (.cmp .eq (.call law_draw (.cons (.var 0) (.cons (.int 3) .nil))) (.int 1)) (.lst (.cons (.ix (.var 5) (.bin .mul (.int 2) (.var 10))) .nil)) (.lst (.cons (.ix (.var 5) (.bin .mul (.int 2) (.var 10))) (.cons (.ix (.var 5) (.bin .add (.bin .mul (.int 2) (.var 10)) (.int 1))) .nil))))) (.seq (.asg 12 (.ite (.call law_rare (.cons (.var 0) (.cons (.int 5) .nil))) (.lst (.cons (.ix (.var 5) (.int 19)) .nil)) (.lst .nil))) (.seq (.ifs (.call law_rare (.cons (.var 0) (.cons (.int 5) .nil))) (.seq (.asg 12 (.bin .add (.var 12) (.slice (.var 11) .nil (.int 1)))) .skip) .skip) (.seq (.asg 13 (.lst (.cons (.var 1) (.cons (.var 7) (.cons (.var 11) (.cons (.var 8) (.cons (.slice (.var 6) .nil (.var 10)) (.cons (.var 12) .nil)))))))) (.seq (.expr (.mth .append (.var 9) (.cons (.tup (.cons (.ix (.var 6) (.var 10)) (.cons (.call law_body (.cons (.var 0) (.cons (.var 13) (.cons (.lst .nil) (.cons (.var 4) (.cons (.int 0) .nil)))))) .nil))) .nil))) (.seq (.asg 8 (.bin .add (.var 8) (.lst (.cons (.var 11) .nil)))) .skip))))))) (.seq (.asg 14 (.call law_shuffled (.cons (.var 0) (.cons (.lrng false .nil (.var 3)) .nil)))) (.seq (.ret (.tup (.cons (.var 1) (.cons (.var 7) (.cons (.blt .tuple (.cons (.comp [("at", 15)] (.one 15) (.iSeq (.var 14)) .nil (.ix (.var 9) (.var 15))) .nil)) .nil))))) .skip))))))))
/-- _law_wild_book: d, kinds, sources, rules, nodes, files, names, heads, rows, k, mine, spec -/
def B_law_wild_book (law_body : Nat) (law_rare : Nat) (law_pick : Nat) (law_shuffled : Nat) (law_sources : Nat) (law_rules : Nat) (law_files : Nat) : S := (.seq (.asg 5 (.slice (.call law_shuffled (.cons (.var 0) (.cons (.call law_files .nil) .nil))) .nil (.int 3))) (.seq (.asg 6 (.slice (.call law_shuffled (.cons (.var 0) (.cons (.call law_rules .nil) .nil))) .nil (.var 3))) (.seq (.asg 7 (.blt .tuple (.cons (.slice (.call law_shuffled (.cons (.var 0) (.cons (.call law_sources .nil) .nil))) .nil (.var 2)) .nil))) (.seq (.asg 8 (.lst .nil)) (.seq (.for_ (.one 9) (.iRange (.var 3)) (.seq (.asg 10 (.lst (.cons (.call law_pick (.cons (.var 0) (.cons (.var 5) .nil))) (.cons (.call law_pick (.cons (.var 0) (.cons (.var 5) .nil))) .nil)))) (.seq (.ifs (.call law_rare (.cons (.var 0) (.cons (.int 9) .nil))) (.seq (.asg 10 (.bin .add (.var 10) (.blt .list (.cons (.var 7) .nil)))) .skip) .skip) (.seq (.asg 11 (.lst (.cons (.var 1) (.cons (.var 7) (.cons (.var 10) (.cons (.bin .mul (.lst (.cons (.var 5) .nil)) (.var 3)) (.cons (.var 6) (.cons (.var 5) .nil)))))))) (.seq (.expr (.mth .append (.var 8) (.cons (.tup (.cons (.ix (.var 6) (.var 9)) (.cons (.call law_body (.cons (.var 0) (.cons (.var 11) (.cons (.lst .nil) (.cons (.var 4) (.cons (.int 0) .nil)))))) .nil))) .nil))) .skip))))) (.seq (.ret (.tup (.cons (.var 1) (.cons (.var 7) (.cons (.blt .tuple (.cons (.var 8) .nil)) .nil))))) .skip))))))
/-- _law_bodies_of: body -/
def B_law_bodies_of : S := (.seq (.ifs (.cmp .eq (.ix (.var 0) (.int 0)) (.str "see")) (.seq (.ret (.blt .list (.cons (.ix (.var 0) (.int 2)) .nil))) .skip) .skip) (.seq (.ifs (.cmp .eq (.ix (.var 0) (.int 0)) (.str "done")) (.seq (.ret (.lst .nil)) .skip) .skip) (.seq (.ret (.lst (.cons (.ix (.var 0) (.bin .sub (.blt .len (.cons (.var 0) .nil)) (.int 1))) .nil))) .skip)))
/-- _law_without_asks: body, one -/
def B_law_without_asks (law_without_asks : Nat) : S := (.seq (.ifs (.cmp .eq (.ix (.var 0) (.int 0)) (.str "ask")) (.seq (.ret (.call law_without_asks (.cons (.ix (.var 0) (.int 2)) .nil))) .skip) .skip) (.seq (.ifs (.cmp .eq (.ix (.var 0) (.int 0)) (.str "see")) (.seq (.ret (.tup (.cons (.str "see") (.cons (.ix (.var 0) (.int 1)) (.cons (.blt .tuple (.cons (.comp [("one", 1)] (.one 1) (.iSeq (.ix (.var 0) (.int 2))) .nil (.call law_without_asks (.cons (.var 1) .nil))) .nil)) .nil))))) .skip) .skip) (.seq (.ifs (.cmp .eq (.ix (.var 0) (.int 0)) (.str "put")) (.seq (.ret (.tup (.cons (.str "put") (.cons (.ix (.var 0) (.int 1)) (.cons (.ix (.var 0) (.int 2)) (.cons (.call law_without_asks (.cons (.ix (.var 0) (.int 3)) .nil)) .nil)))))) .skip) .skip) (.seq (.ret (.var 0)) .skip))))
/-- _law_put_files: body, found, left, turn, one -/
def B_law_put_files (law_bodies_of : Nat) : S := (.seq (.asg 1 (.lst .nil)) (.seq (.asg 2 (.lst (.cons (.var 0) .nil))) (.seq (.for_ (.one 3) (.iRange (.int 200)) (.seq (.ifs (.not (.var 2)) (.seq .brk .skip) .skip) (.seq (.asg 4 (.mth .pop (.var 2) .nil)) (.seq (.ifs (.ands (.cons (.cmp .eq (.ix (.var 4) (.int 0)) (.str "put")) (.cons (.cmp .notin (.ix (.var 4) (.int 1)) (.var 1)) .nil))) (.seq (.expr (.mth .append (.var 1) (.cons (.ix (.var 4) (.int 1)) .nil))) .skip) .skip) (.seq (.expr (.mth .extend (.var 2) (.cons (.call law_bodies_of (.cons (.var 4) .nil)) .nil))) .skip))))) (.seq (.ret (.var 1)) .skip))))
/-- _law_nodes: body, many, left, turn -/
def B_law_nodes (law_bodies_of : Nat) : S := (.seq (.asg 1 (.int 0)) (.seq (.asg 2 (.lst (.cons (.var 0) .nil))) (.seq (.for_ (.one 3) (.iRange (.int 400)) (.seq (.ifs (.not (.var 2)) (.seq .brk .skip) .skip) (.seq (.augV 1 .add (.int 1)) (.seq (.expr (.mth .extend (.var 2) (.cons (.call law_bodies_of (.cons (.mth .pop (.var 2) .nil) .nil)) .nil))) .skip)))) (.seq (.ret (.var 1)) .skip))))
/-- _law_spoilt_book: d, book, at, other, name, body, files, way, rows, k -/
def B_law_spoilt_book (law_rare : Nat) (law_pick : Nat) (law_draw : Nat) (law_nodes : Nat) (law_without_asks : Nat) (law_put_files : Nat) (law_files : Nat) : S := (.seq (.asg 2 (.call law_draw (.cons (.var 0) (.cons (.blt .len (.cons (.ix (.var 1) (.int 2)) .nil)) .nil)))) (.seq (.asg 3 (.call law_draw (.cons (.var 0) (.cons (.blt .len (.cons (.ix (.var 1) (.int 2)) .nil)) .nil)))) (.seq (.asgT [4, 5] (.ix (.ix (.var 1) (.int 2)) (.var 2))) (.seq (.asg 6 (.bin .add (.call law_put_files (.cons (.ix (.ix (.ix (.var 1) (.int 2)) (.var 3)) (.int 1)) .nil)) (.lst (.cons (.call law_pick (.cons (.var 0) (.cons (.call law_files .nil) .nil))) .nil)))) (.seq (.asg 7 (.call law_draw (.cons (.var 0) (.cons (.int 6) .nil)))) (.seq (.ifs (.cmp .eq (.var 7) (.int 1)) (.seq (.asg 5 (.call law_without_asks (.cons (.var 5) .nil))) .skip) .skip) (.seq (.ifs (.cmp .eq (.var 7) (.int 2)) (.seq (.asg 5 (.tup (.cons (.str "ask") (.cons (.ix (.ix (.ix (.var 1) (.int 2)) (.var 3)) (.int 0)) (.cons (.var 5) .nil))))) .skip) .skip) (.seq (.ifs (.ands (.cons (.ors (.cons (.cmp .eq (.var 7) (.int 3)) (.cons (.cmp .eq (.var 7) (.int 4)) .nil))) (.cons (.cmp .lt (.bin .mul (.call law_nodes (.cons (.var 5) .nil)) (.bin .add (.ix (.var 1) (.int 0)) (.int 1))) (.int 58)) .nil))) (.seq (.asg 5 (.tup (.cons (.str "see") (.cons (.ix (.var 6) (.int 0)) (.cons (.blt .tuple (.cons (.bin .mul (.lst (.cons (.var 5) .nil)) (.bin .add (.ix (.var 1) (.int 0)) (.int 1))) .nil)) .nil))))) .skip) .skip) (.seq (.ifs (.cmp .eq (.var 7) (.int 5)) (.seq (.asg 5 (.tup (.cons (.str "put") (.cons (.ix (.var 6) (.int 0)) (.cons (.call law_draw (.cons (.var 0) (.cons (.ix (.var 1) (.int 0)) .nil))) (.cons (.var 5) .nil)))))) .skip) .skip) (.seq (.ifs (.ands (.cons (.cmp .eq (.var 7) (.int 0)) (.cons (.ix (.var 1) (.int 1)) (.cons (.call law_rare (.cons (.var 0) (.cons (.int 3) .nil))) .nil)))) (.seq (.asg 5 (.tup (.cons (.str "put") (.cons (.call law_pick (.cons (.var 0) (.cons (.blt .list (.cons (.ix (.var 1) (.int 1)) .nil)) .nil))) (.cons (.int 0) (.cons (.var 5) .nil)))))) .skip) .skip) (.seq (.asg 8 (.comp [("k", 9)] (.one 9) (.iRange (.blt .len (.cons (.ix (.var 1) (.int 2)) .nil))) .nil (.ite (.cmp .eq (.var 9) (.var 2)) (.tup (.cons (.var 4) (.cons (.var 5) .nil))) (.ix (.ix (.var 1) (.int 2)) (.var 9))))) (.seq (.ret (.tup (.cons (.ix (.var 1) (.int 0)) (.cons (.ix (.var 1) (.int 1)) (.cons (.blt .tuple (.cons (.var 8) .nil)) .nil))))) .skip))))))))))))
/-- _law_book: d, kinds, sources, rules, nodes, way, many, seen, size, book -/
def B_law_book (law_spoilt_book : Nat) (law_tidy_book : Nat) (law_wild_book : Nat) (law_draw : Nat) : S := (.seq (.asg 5 (.call law_draw (.cons (.var 0) (.cons (.int 5) .nil)))) (.seq (.asg 6 (.bin .add (.int 1) (.call law_draw (.cons (.var 0) (.cons (.var 1) .nil))))) (.seq (.asg 7 (.blt .max (.cons (.call law_draw (.cons (.var 0) (.cons (.bin .add (.var 2) (.int 1)) .nil))) (.cons (.call law_draw (.cons (.var 0) (.cons (.bin .add (.var 2) (.int 1)) .nil))) .nil)))) (.seq (.asg 8 (.bin .add (.int 1) (.blt .max (.cons (.call law_draw (.cons (.var 0) (.cons (.var 3) .nil))) (.cons (.call law_draw (.cons (.var 0) (.cons (.var 3) .nil))) .nil))))) (.seq (.ifs (.cmp .eq (.var 5) (.int 3)) (.seq (.ret (.call law_wild_book (.cons (.var 0) (.cons (.var 6) (.cons (.var 7) (.cons (.var 8) (.cons (.var 4) .nil))))))) .skip) .skip) (.seq (.asg 9 (.call law_tidy_book (.cons (.var 0) (.cons (.var 6) (.cons (.var 7) (.cons (.var 8) (.cons (.var 4) .nil))))))) (.seq (.ifs (.ors (.cons (.cmp .eq (.var 5) (.int 1)) (.cons (.cmp .eq (.var 5) (.int 2)) .nil))) (.seq (.ret (.call law_spoilt_book (.cons (.var 0) (.cons (.var 9) .nil)))) .skip) .skip) (.seq (.ret (.var 9)) .skip))))))))
def ok1 (s : Str) : Prop := nmS s = true
theorem ok1.s {x : Str} (h : ok1 x) : okS x = true := by
  unfold ok1 nmS at h
  rw [Bool.and_eq_true, Bool.and_eq_true] at h
  exact h.1.1
def NamesLC (C : CE) (f n : Nat) : Prop := ∀ (M : Hm) (Q : QU), (∀ (r : Addr) (l : List Str) M', Sub M M' → M r = none → M' r = some (.lst (l.map U.str)) → l.length = n → l.Nodup → (∀ x ∈ l, ok1 x) → Q (.ref r) M') → C f [] M Q
def ShufU (C : CE) (f : Nat) : Prop := ∀ (M : Hm) (p : Addr × Addr) (r : Addr) (us : List U) (Q : QU), Dr M p → M r = some (.lst us) → us.length < 100000 →
  (∀ q ws M', ws.Perm us → Dr M' p → Fr p M M' → q ≠ p.1 → q ≠ p.2 → M q = none → M' q = some (.lst ws) → Q (.ref q) M') → C f [.ref p.1, .ref r] M Q
theorem perm_map {α : Type} (f : α → U) : ∀ {us ws : List U} {l : List α}, ws.Perm us → us = l.map f → ∃ k : List α, ws = k.map f ∧ k.Perm l := fun {us ws l} h e => by
  induction h generalizing l with
  | nil => cases l with
    | nil => exact ⟨[], rfl, .nil⟩
    | cons _ _ => cases e
  | cons x h ih => cases l with
    | nil => cases e
    | cons a l =>
      simp only [List.map_cons, List.cons.injEq] at e
      obtain ⟨k, h1, h2⟩ := ih e.2
      exact ⟨a :: k, by rw [e.1, h1]; rfl, h2.cons a⟩
  | swap x y t => cases l with
    | nil => cases e
    | cons a l => cases l with
      | nil => simp at e
      | cons b l =>
        simp only [List.map_cons, List.cons.injEq] at e
        exact ⟨b :: a :: l, by rw [e.1, e.2.1, e.2.2]; rfl, .swap a b l⟩
  | trans h1 h2 ih1 ih2 =>
    obtain ⟨k, e1, p1⟩ := ih2 e
    obtain ⟨k2, e2, p2⟩ := ih1 e1
    exact ⟨k2, e2, p2.trans p1⟩
structure BkG (b : Bk) (j : Nat) : Prop where
  ok : BkOk b
  n1 : b.n < 100
  r0 : 0 < b.rows.length
  r8 : b.rows.length ≤ 8
  bp : ∀ r ∈ b.rows, BBP b j r.2
  nd : b.names.Nodup
  sz : ∀ r ∈ b.rows, sz r.2 ≤ 58 + j
  hd : b.heads.Nodup
/-- what a body out of so much room may have -/
def nbF (n : Nat) : Nat → Nat → Nat
  | 0, _ => 1
  | f + 1, l => if l < 2 then 1 else max (1 + nbF n f (l - 1)) (1 + (n + 1) * nbF n f ((l - 1) / (n + 1) + 1))
theorem szs_le {W : Nat} : ∀ {bs : List Bd}, (∀ b ∈ bs, sz b ≤ W) → sz.szs bs ≤ bs.length * W
  | [], _ => Nat.zero_le _
  | b :: bs, h => by
    have h1 := h b List.mem_cons_self
    have h2 := szs_le fun x hx => h x (List.mem_cons_of_mem b hx)
    show sz b + sz.szs bs ≤ (bs.length + 1) * W
    rw [Nat.succ_mul]
    omega
theorem BN.sz_le {n : Nat} (hn : 0 < n) : ∀ (f : Nat) {l : Int} {b : Bd}, BN n l b → l ≤ f → sz b ≤ nbF n f l.toNat
  | 0, l, b, h, hl => by
    cases h with
    | done => exact Nat.le_refl _
    | put h1 _ => omega
    | ask h1 _ => omega
    | see h1 _ _ => omega
  | f + 1, l, b, h, hl => by
    cases h with
    | done =>
      show 1 ≤ nbF n (f + 1) l.toNat
      unfold nbF
      split
      · exact Nat.le_refl _
      · omega
    | put h1 h2 =>
      have := h2.sz_le hn f (by omega)
      have e : (l - 1).toNat = l.toNat - 1 := by omega
      rw [e] at this
      unfold nbF
      rw [if_neg (by omega)]
      exact Nat.le_trans (Nat.add_le_add_left this 1) (Nat.le_max_left _ _)
    | ask h1 h2 =>
      have := h2.sz_le hn f (by omega)
      have e : (l - 1).toNat = l.toNat - 1 := by omega
      rw [e] at this
      unfold nbF
      rw [if_neg (by omega)]
      exact Nat.le_trans (Nat.add_le_add_left this 1) (Nat.le_max_left _ _)
    | see h1 h2 h3 =>
      obtain ⟨k, rfl⟩ : ∃ k : Nat, l = k := ⟨l.toNat, by omega⟩
      have ek : ((k : Int) - 1) / ((n : Int) + 1) + 1 = (((k - 1) / (n + 1) + 1 : Nat) : Int) := by
        rw [show (k : Int) - 1 = ((k - 1 : Nat) : Int) by omega, show (n : Int) + 1 = ((n + 1 : Nat) : Int) by omega]
        rfl
      rw [ek] at h3
      have lt : (k - 1) / (n + 1) + 1 ≤ f := by
        have := Nat.div_le_div_left (a := k - 1) (show 2 ≤ n + 1 by omega) (by decide)
        omega
      have key : ∀ x ∈ _, sz x ≤ nbF n f ((k - 1) / (n + 1) + 1) := fun x hx => by
        have := (h3 x hx).sz_le hn f (by omega)
        rwa [Int.toNat_natCast] at this
      have := szs_le key
      rw [h2] at this
      unfold nbF
      rw [if_neg (by omega), Int.toNat_natCast]
      exact Nat.le_trans (Nat.add_le_add_left this 1) (Nat.le_max_right _ _)
theorem BP.mono {n : Nat} {pp pp' : Str → Int → Prop} {pa pa' ps ps' : Str → Prop} (h1 : ∀ f c, pp f c → pp' f c) (h2 : ∀ f, pa f → pa' f) (h3 : ∀ f, ps f → ps' f) {j : Nat} {b : Bd} (h : BP n pp pa ps j b) : BP n pp' pa' ps' j b := by
  induction h with
  | done => exact .done
  | put a _ ih => exact .put (h1 _ _ a) ih
  | ask a _ ih => exact .ask (h2 _ a) ih
  | see a l _ ih => exact .see (h3 _ a) l ih
theorem sz_ten {n : Nat} {nodes : Int} {b : Bd} (hd : nodes = 10 ∨ nodes = 12) (h0 : 0 < n) (hn : n ≤ 4) (h : BN n nodes b) : sz b ≤ 67 := by
  rcases hd with rfl | rfl
  · have h1 := h.sz_le h0 10 (by decide)
    have h2 : ∀ n < 5, 0 < n → nbF n 10 10 ≤ 67 := by decide +kernel
    exact Nat.le_trans h1 (h2 n (by omega) h0)
  · have h1 := h.sz_le h0 12 (by decide)
    have h2 : ∀ n < 5, 0 < n → nbF n 12 12 ≤ 67 := by decide +kernel
    exact Nat.le_trans h1 (h2 n (by omega) h0)
theorem BkG.mk' {n : Nat} {heads : List Str} {rows : List (Str × Bd)} {j : Nat} (h0 : 0 < n) (hn : n < 100) (hh : ∀ h ∈ heads, ok1 h) (hl : heads.length ≤ 100) (r0 : 0 < rows.length) (r8 : rows.length ≤ 8) (nd : (rows.map (·.1)).Nodup) (hdn : heads.Nodup) (hz : ∀ r ∈ rows, Pl.sz r.2 ≤ 58 + j) (hr : ∀ r ∈ rows, ok1 r.1 ∧ BP (n + 1) (fun f c => ok1 f ∧ 0 ≤ c ∧ c < n) (fun r => r ∈ rows.map (·.1)) ok1 j r.2) : BkG ⟨n, heads, rows⟩ j :=
  ⟨⟨h0, hh, fun r hr' => ⟨(hr r hr').1, j, (hr r hr').2⟩, hl, by show rows.length ≤ 100; omega⟩, hn, r0, r8, (fun r hr' => (hr r hr').2), nd, hz, hdn⟩
/-- all but the draws' own and one more stays -/
def Fr2 (p : Addr × Addr) (w : Addr) (M M' : Hm) : Prop := ∀ a, a ≠ p.1 → a ≠ w → ∀ o, M a = some o → M' a = some o
theorem tidy_tail {C : CE} {fb : Nat} (hb : BodyC C fb 0) {nx bk ct : SU → Hm → Prop} {rt : QU} {M : Hm} {p : Addr × Addr} {n k : Nat} {H NM X Mi : List Str} {G : List Addr} {rowsL : List (Str × Bd)} {nm o rw m x : Addr} {u2 u3 u5 u13 u14 u15 : Option U} {nodes : Int} (n0 : 0 < n) (n1 : n < 100) (d : Dr M p)
    (hH : H.length ≤ 100) (hHk : ∀ h ∈ H, ok1 h) (nm1 : nm ≠ p.1) (hnm : M nm = some (.lst (NM.map U.str))) (hNl : NM.length ≤ 100) (hk : k < NM.length) (hm : StrsAt M p m ok1 Mi) (hx : StrsAt M p x ok1 X)
    (o1 : o ≠ p.1) (ho : M o = some (.lst (G.map U.ref))) (hG : G.length = k) (hGs : ∀ r ∈ G, r ≠ rw ∧ ∃ l, StrsAt M p r ok1 l) (w1 : rw ≠ p.1) (w2 : rw ≠ p.2) (hw : M rw = some (.lst (rowsL.map encRow))) (hrl : rowsL.length ≤ 100) (onw : o ≠ rw)
    (hq : ∀ o' t bd M', BP (n + 1) (fun f c => ok1 f ∧ 0 ≤ c ∧ c < n) (fun r => r ∈ NM) ok1 9 bd → BN n nodes bd → Dr M' p → Fr2 p rw M M' → o' ≠ p.1 → o' ≠ rw → M' o' = some (.lst ((G ++ [m]).map U.ref)) → M' rw = some (.lst ((rowsL ++ [(NM[k], bd)]).map encRow)) →
      nx [some (.ref p.1), some (.int n), u2, u3, some (.int nodes), u5, some (.ref nm), some (.tup (H.map U.str)), some (.ref o'), some (.ref rw), some (.int k), some (.ref m), some (.ref x), t, u14, u15] M') :
    wS C (.seq (.asg 13 (.lst (.cons (.var 1) (.cons (.var 7) (.cons (.var 11) (.cons (.var 8) (.cons (.slice (.var 6) .nil (.var 10)) (.cons (.var 12) .nil)))))))) (.seq (.expr (.mth .append (.var 9) (.cons (.tup (.cons (.ix (.var 6) (.var 10)) (.cons (.call fb (.cons (.var 0) (.cons (.var 13) (.cons (.lst .nil) (.cons (.var 4) (.cons (.int 0) .nil)))))) .nil))) .nil))) (.seq (.asg 8 (.bin .add (.var 8) (.lst (.cons (.var 11) .nil)))) .skip)))
    ⟨nx, rt, bk, ct⟩ [some (.ref p.1), some (.int n), u2, u3, some (.int nodes), u5, some (.ref nm), some (.tup (H.map U.str)), some (.ref o), some (.ref rw), some (.int k), some (.ref m), some (.ref x), u13, u14, u15] M := by
  (repeat decreasing_trivial_pre_omega)
  rw [cutU_take, ← List.map_take]
  intro a ha
  have d1 := d.upd (o := .lst ((NM.take k).map U.str)) ha
  have a1 := d.ne ha
  (repeat decreasing_trivial_pre_omega)
  intro s hs
  have d2 := d1.upd (o := .lst [.int n, .tup (H.map U.str), .ref m, .ref o, .ref a, .ref x]) hs
  have s1 := d1.ne hs
  have hs0 := um_none hs
  have sa := um_noneN hs
  have wa : rw ≠ a := ne_of_old hw ha
  have ws : rw ≠ s := ne_of_old hw hs0
  (repeat decreasing_trivial_pre_omega)
  refine x_lst (v := .str NM[k]) (um_old (um_old hnm ha) hs) (by rw [atI_nat (by rw [List.length_map]; exact hk), List.getElem_map]) ?_
  (repeat decreasing_trivial_pre_omega)
  intro q hq0
  have d3 := d2.upd (o := .lst []) hq0
  have q1 := d2.ne hq0
  have hq1 := um_none hq0
  have qs := um_noneN hq0
  have hq2 := um_none hq1
  have qa := um_noneN hq1
  have S0 : Sub M (um (um (um M a (.lst ((NM.take k).map U.str))) s (.lst [.int n, .tup (H.map U.str), .ref m, .ref o, .ref a, .ref x])) q (.lst [])) := sub_um (sub_um (sub_um (Sub.refl _) ha) hs0) hq2
  have e_s : um (um (um M a (.lst ((NM.take k).map U.str))) s (.lst [.int n, .tup (H.map U.str), .ref m, .ref o, .ref a, .ref x])) q (.lst []) s = some (.lst [.int n, .tup (H.map U.str), .ref m, .ref o, .ref a, .ref x]) := um_oth qs.symm um_same
  have e_a : um (um (um M a (.lst ((NM.take k).map U.str))) s (.lst [.int n, .tup (H.map U.str), .ref m, .ref o, .ref a, .ref x])) q (.lst []) a = some (.lst ((NM.take k).map U.str)) := um_oth qa.symm (um_oth sa.symm um_same)
  have e_q : um (um (um M a (.lst ((NM.take k).map U.str))) s (.lst [.int n, .tup (H.map U.str), .ref m, .ref o, .ref a, .ref x])) q (.lst []) q = some (.lst []) := um_same
  generalize um (um (um M a (.lst ((NM.take k).map U.str))) s (.lst [.int n, .tup (H.map U.str), .ref m, .ref o, .ref a, .ref x])) q (.lst []) = M3 at d3 S0 e_s e_a e_q ⊢
  have F3 : Fr p M M3 := S0.fr
  (repeat decreasing_trivial_pre_omega)
  refine hb M3 p s q n ok1 (fun r => r ∈ NM) ok1 nodes 9 _ (by decide) n0 n1 d3 ?_ ?_ fun bd M4 hbd hbn d4 fr4 => ?_
  · refine ⟨H, Mi, NM.take k, X, m, o, a, x, G, .tup (H.map U.str), s1, e_s, ⟨hH, .inr rfl⟩, hHk, hm.fr F3, ⟨a1, by rw [List.length_take]; omega, fun y hy => List.mem_of_mem_take hy, e_a⟩, hx.fr F3, o1, S0 _ _ ho, by rw [List.length_take]; omega, fun r hr => ?_⟩
    obtain ⟨l, hl⟩ := (hGs r hr).2
    exact ⟨l, hl.fr F3⟩
  · exact ⟨[], _, _, _, _, _, o, G, q1, e_q, by decide, e_s, S0 _ _ ho, s1, o1, by intro i hi; cases hi⟩
  have hw4 := fr4.at_ w1 (S0 _ _ hw)
  have ho4 := fr4.at_ o1 (S0 _ _ ho)
  (repeat decreasing_trivial_pre_omega)
  refine m_app hw4 (by rw [List.length_map]; unfold LIM; omega) ?_
  have e9 : rowsL.map encRow ++ [.tup [.str NM[k], encB bd]] = (rowsL ++ [(NM[k], bd)]).map encRow := by simp [encRow]
  rw [e9]
  have d5 := d4.upd2 (o := .lst ((rowsL ++ [(NM[k], bd)]).map encRow)) w1 w2
  have ho5 := um_oth (o := .lst ((rowsL ++ [(NM[k], bd)]).map encRow)) onw ho4
  (repeat decreasing_trivial_pre_omega)
  intro t ht
  have d6 := d5.upd (o := .lst [.ref m]) ht
  have wt : rw ≠ t := fun e => by rw [← e, um_same] at ht; cases ht
  (repeat decreasing_trivial_pre_omega)
  refine o_addL (um_old ho5 ht) um_same (by rw [List.length_map]; simp; unfold LIM; omega) fun o' hoN => ?_
  have e8 : G.map U.ref ++ [.ref m] = (G ++ [m]).map U.ref := by simp
  rw [e8]
  have d7 := d6.upd (o := .lst ((G ++ [m]).map U.ref)) hoN
  have o'1 := d6.ne hoN
  have ho0 := um_none hoN
  have wo : rw ≠ o' := fun e => by rw [← e, um_same] at ho0; cases ho0
  (repeat decreasing_trivial_pre_omega)
  refine hq o' _ bd _ hbd hbn d7 ?_ o'1 wo.symm um_same (um_oth wo (um_oth wt um_same))
  intro b1 g1 g2 ob hob
  have h4 := fr4 b1 g1 _ (S0 _ _ hob)
  exact um_old (um_old (um_oth g2 h4) ht) hoN
end Pl

set_option maxHeartbeats 2000000
/-! tidy books -/
namespace Pl
open PySem L2
theorem tidy_mid {C : CE} {fr : Nat} (hr : RareC C fr) {T : S} {nx bk ct : SU → Hm → Prop} {rt : QU} {M : Hm} {p : Addr × Addr} {FL Mi : List Str} {fl m : Addr} {u1 u2 u3 u4 u6 u7 u8 u9 u10 u12 u13 u14 u15 : Option U} (d : Dr M p)
    (fl1 : fl ≠ p.1) (hfl : M fl = some (.lst (FL.map U.str))) (hF : FL.length = 20) (hFk : ∀ x ∈ FL, ok1 x) (hm : StrsAt M p m ok1 Mi) (hml : Mi.length ≤ 10)
    (hq : ∀ x X M', StrsAt M' p x ok1 X → Dr M' p → Fr p M M' → wS C T ⟨nx, rt, bk, ct⟩ [some (.ref p.1), u1, u2, u3, u4, some (.ref fl), u6, u7, u8, u9, u10, some (.ref m), some (.ref x), u13, u14, u15] M') :
    wS C (.seq (.asg 12 (.ite (.call fr (.cons (.var 0) (.cons (.int 5) .nil))) (.lst (.cons (.ix (.var 5) (.int 19)) .nil)) (.lst .nil))) (.seq (.ifs (.call fr (.cons (.var 0) (.cons (.int 5) .nil))) (.seq (.asg 12 (.bin .add (.var 12) (.slice (.var 11) .nil (.int 1)))) .skip) .skip) T))
    ⟨nx, rt, bk, ct⟩ [some (.ref p.1), u1, u2, u3, u4, some (.ref fl), u6, u7, u8, u9, u10, some (.ref m), u12, u13, u14, u15] M := by
  have rest : ∀ (x : Addr) (X : List Str) (M1 : Hm), StrsAt M1 p x ok1 X → X.length ≤ 1 → Dr M1 p → Fr p M M1 → wS C (.seq (.ifs (.call fr (.cons (.var 0) (.cons (.int 5) .nil))) (.seq (.asg 12 (.bin .add (.var 12) (.slice (.var 11) .nil (.int 1)))) .skip) .skip) T) ⟨nx, rt, bk, ct⟩ [some (.ref p.1), u1, u2, u3, u4, some (.ref fl), u6, u7, u8, u9, u10, some (.ref m), some (.ref x), u13, u14, u15] M1 := fun x X M1 hx hX d1 f1 => by
    (repeat decreasing_trivial_pre_omega)
    refine hr M1 p 5 _ d1 (by decide) (by decide) fun b M2 d2 f2 => ?_
    have hx2 := hx.fr f2
    have hm2 := (hm.fr f1).fr f2
    cases b with
    | false =>
      (repeat decreasing_trivial_pre_omega)
      exact hq x X M2 hx2 d2 (f1.trans f2)
    | true =>
      obtain ⟨x1, x2, x3, x4⟩ := hx2
      obtain ⟨m1, m2, m3, m4⟩ := hm2
      (repeat decreasing_trivial_pre_omega)
      rw [show (some (1 : Int)) = some ((1 : Nat) : Int) from rfl, cutU_take, ← List.map_take]
      intro a ha
      have d3 := d2.upd (o := .lst ((Mi.take 1).map U.str)) ha
      (repeat decreasing_trivial_pre_omega)
      refine o_addL (um_old x4 ha) um_same (by rw [List.length_map, List.length_map, List.length_take]; unfold LIM; omega) fun y hy => ?_
      rw [← List.map_append]
      have d4 := d3.upd (o := .lst ((X ++ Mi.take 1).map U.str)) hy
      (repeat decreasing_trivial_pre_omega)
      refine hq y (X ++ Mi.take 1) _ ⟨d3.ne hy, by rw [List.length_append, List.length_take]; omega, fun z hz => ?_, um_same⟩ d4 ((f1.trans f2).trans (sub_um (sub_um (Sub.refl _) ha) (um_none hy)).fr)
      rcases List.mem_append.mp hz with hz | hz
      · exact x3 z hz
      · exact m3 z (List.mem_of_mem_take hz)
  generalize (S.seq (.ifs (.call fr (.cons (.var 0) (.cons (.int 5) .nil))) (.seq (.asg 12 (.bin .add (.var 12) (.slice (.var 11) .nil (.int 1)))) .skip) .skip) T) = T2 at rest ⊢
  (repeat decreasing_trivial_pre_omega)
  refine hr M p 5 _ d (by decide) (by decide) fun b M1 d1 f1 => ?_
  have hfl1 := f1.at_ fl1 hfl
  cases b with
  | false =>
    (repeat decreasing_trivial_pre_omega)
    intro x hx
    have x1 := d1.ne hx
    (repeat decreasing_trivial_pre_omega)
    exact rest x [] _ ⟨x1, by decide, by simp, um_same⟩ (by decide) (d1.upd hx) (f1.upd (f1.non x1 hx))
  | true =>
    (repeat decreasing_trivial_pre_omega)
    refine x_lst (v := .str FL[19]) hfl1 (by rw [show (19 : Int) = ((19 : Nat) : Int) from rfl, atI_nat (by rw [List.length_map]; omega), List.getElem_map]) ?_
    (repeat decreasing_trivial_pre_omega)
    intro x hx
    have x1 := d1.ne hx
    (repeat decreasing_trivial_pre_omega)
    exact rest x [FL[19]] _ ⟨x1, by simp, (by intro z hz; rw [List.mem_singleton] at hz; subst hz; exact hFk _ (List.getElem_mem _)), um_same⟩ (by simp) (d1.upd hx) (f1.upd (f1.non x1 hx))
theorem tidy_mine {C : CE} {fd : Nat} (hd : DrawC C fd) {T : S} {nx bk ct : SU → Hm → Prop} {rt : QU} {M : Hm} {p : Addr × Addr} {FL : List Str} {fl : Addr} {k : Nat} {u1 u2 u3 u4 u6 u7 u8 u9 u11 u12 u13 u14 u15 : Option U} (d : Dr M p)
    (fl1 : fl ≠ p.1) (hfl : M fl = some (.lst (FL.map U.str))) (hF : FL.length = 20) (hFk : ∀ x ∈ FL, ok1 x) (hk : k < 8)
    (hq : ∀ m Mi M', StrsAt M' p m ok1 Mi → Mi.length ≤ 10 → M m = none → Dr M' p → Fr p M M' → wS C T ⟨nx, rt, bk, ct⟩ [some (.ref p.1), u1, u2, u3, u4, some (.ref fl), u6, u7, u8, u9, some (.int k), some (.ref m), u12, u13, u14, u15] M') :
    wS C (.seq (.asg 11 (.ite (.cmp .eq (.call fd (.cons (.var 0) (.cons (.int 3) .nil))) (.int 1)) (.lst (.cons (.ix (.var 5) (.bin .mul (.int 2) (.var 10))) .nil)) (.lst (.cons (.ix (.var 5) (.bin .mul (.int 2) (.var 10))) (.cons (.ix (.var 5) (.bin .add (.bin .mul (.int 2) (.var 10)) (.int 1))) .nil))))) T)
    ⟨nx, rt, bk, ct⟩ [some (.ref p.1), u1, u2, u3, u4, some (.ref fl), u6, u7, u8, u9, some (.int k), u11, u12, u13, u14, u15] M := by
  have at0 : atI (FL.map U.str) (2 * (k : Int)) = some (.str (FL[2 * k]'(by omega))) := by
    rw [show (2 * (k : Int)) = ((2 * k : Nat) : Int) by omega, atI_nat (by rw [List.length_map]; omega), List.getElem_map]
  have at1 : atI (FL.map U.str) (2 * (k : Int) + 1) = some (.str (FL[2 * k + 1]'(by omega))) := by
    rw [show (2 * (k : Int) + 1) = ((2 * k + 1 : Nat) : Int) by omega, atI_nat (by rw [List.length_map]; omega), List.getElem_map]
  (repeat decreasing_trivial_pre_omega)
  refine hd.lt M p 3 _ d (by decide) (by decide) fun r M1 hr d1 f1 => ?_
  have hfl1 := f1.at_ fl1 hfl
  (repeat decreasing_trivial_pre_omega)
  refine i_ifd (fun h => ?_) (fun h => ?_)
  · (repeat decreasing_trivial_pre_omega)
    refine x_lst hfl1 at0 ?_
    (repeat decreasing_trivial_pre_omega)
    intro x hx
    have x1 := d1.ne hx
    (repeat decreasing_trivial_pre_omega)
    exact hq x [FL[2 * k]'(by omega)] _ ⟨x1, by simp, (by intro z hz; rw [List.mem_singleton] at hz; subst hz; exact hFk _ (List.getElem_mem _)), um_same⟩ (by simp) (f1.non x1 hx) (d1.upd hx) (f1.upd (f1.non x1 hx))
  · (repeat decreasing_trivial_pre_omega)
    refine x_lst hfl1 at0 ?_
    (repeat decreasing_trivial_pre_omega)
    refine x_lst hfl1 at1 ?_
    (repeat decreasing_trivial_pre_omega)
    intro x hx
    have x1 := d1.ne hx
    (repeat decreasing_trivial_pre_omega)
    exact hq x [FL[2 * k]'(by omega), FL[2 * k + 1]'(by omega)] _ ⟨x1, by simp, (by
      intro z hz
      rcases List.mem_cons.mp hz with rfl | hz
      · exact hFk _ (List.getElem_mem _)
      · rw [List.mem_singleton] at hz; subst hz; exact hFk _ (List.getElem_mem _)), um_same⟩ (by simp) (f1.non x1 hx) (d1.upd hx) (f1.upd (f1.non x1 hx))
theorem getD_perm_mem {l : List Nat} {n : Nat} (h : l.Perm (List.range n)) {i : Nat} : i ∈ l ↔ i < n := by
  rw [h.mem_iff, List.mem_range]
theorem tidy_ok {C : CE} {fs fb fr fd fso fru ffi : Nat} (hs : ShufU C fs) (hb : BodyC C fb 0) (hr : RareC C fr) (hd : DrawC C fd) (hso : NamesLC C fso 10) (hru : NamesLC C fru 16) (hfi : NamesLC C ffi 20) {nx bk ct : SU → Hm → Prop} {rt : QU} {M : Hm} {p : Addr × Addr} {n s R : Nat} {nodes : Int} (hnd : (nodes = 10 ∨ nodes = 12)) (hn4 : n ≤ 4) (n0 : 0 < n) (n1 : n < 100) (hR0 : 0 < R) (hR8 : R ≤ 8) (d : Dr M p)
    (hq : ∀ b M', BkG b 9 → b.n = n → b.heads.length ≤ s → b.rows.length = R → Dr M' p → Fr p M M' → rt (encBk b) M') :
    wS C (B_law_tidy_book fs fb fr fd fso fru ffi) ⟨nx, rt, bk, ct⟩ (startU 16 [.ref p.1, .int n, .int s, .int R, .int nodes]) M := by
  unfold B_law_tidy_book
  (repeat decreasing_trivial_pre_omega)
  refine hfi _ _ fun r1 FL0 M1 s1 _ hr1 hl1 _ hk1 => ?_
  refine hs M1 p r1 _ _ (d.sub s1) hr1 (by rw [List.length_map]; omega) fun fl ws1 M2 pe1 d2 f2 fl1 fl2 _ hfl => ?_
  obtain ⟨FL, rfl, pFL⟩ := perm_map U.str pe1 rfl
  have hF : FL.length = 20 := by rw [pFL.length_eq, hl1]
  have hFk : ∀ x ∈ FL, ok1 x := fun x hx => hk1 x (pFL.mem_iff.mp hx)
  have F2 : Fr p M M2 := s1.fr.trans f2
  (repeat decreasing_trivial_pre_omega)
  refine hru _ _ fun r2 NM0 M3 s3 _ hr2 hl2 nd2 hk2 => ?_
  refine hs M3 p r2 _ _ (d2.sub s3) hr2 (by rw [List.length_map]; omega) fun nm0 ws2 M4 pe2 d4 f4 _ _ _ hnm0 => ?_
  obtain ⟨NM1, rfl, pNM⟩ := perm_map U.str pe2 rfl
  have hfl4 := f4.at_ fl1 (s3 _ _ hfl)
  have F4 := F2.trans (s3.fr.trans f4)
  have hN1 : NM1.length = 16 := by rw [pNM.length_eq, hl2]
  (repeat decreasing_trivial_pre_omega)
  rw [cutU_take, ← List.map_take]
  intro nm hnmN
  have d5 := d4.upd (o := .lst ((NM1.take R).map U.str)) hnmN
  have nm1 := d4.ne hnmN
  have hfl5 := um_old (o := .lst ((NM1.take R).map U.str)) hfl4 hnmN
  have F5 := F4.upd (o := .lst ((NM1.take R).map U.str)) (F4.non nm1 hnmN)
  have hnm : um M4 nm (.lst ((NM1.take R).map U.str)) nm = some (.lst ((NM1.take R).map U.str)) := um_same
  have hNl : (NM1.take R).length = R := by rw [List.length_take]; omega
  have hNk : ∀ x ∈ NM1.take R, ok1 x := fun x hx => hk2 x (pNM.mem_iff.mp (List.mem_of_mem_take hx))
  have hNd : (NM1.take R).Nodup := (pNM.nodup_iff.mpr nd2).sublist (List.take_sublist _ _)
  generalize NM1.take R = NM at *
  generalize um M4 nm (.lst (NM.map U.str)) = M5 at *
  (repeat decreasing_trivial_pre_omega)
  refine hso _ _ fun r3 H0 M6 s6 _ hr3 hl3 hnd3 hk3 => ?_
  refine hs M6 p r3 _ _ (d5.sub s6) hr3 (by rw [List.length_map]; omega) fun h1 ws3 M7 pe3 d7 f7 _ _ _ hh1 => ?_
  obtain ⟨H1, rfl, pH⟩ := perm_map U.str pe3 rfl
  have hfl7 := f7.at_ fl1 (s6 _ _ hfl5)
  have hnm7 := f7.at_ nm1 (s6 _ _ hnm)
  have F7 := F5.trans (s6.fr.trans f7)
  have hH1 : H1.length = 10 := by rw [pH.length_eq, hl3]
  (repeat decreasing_trivial_pre_omega)
  rw [cutU_take, ← List.map_take]
  intro h2 hh2
  have d8 := d7.upd (o := .lst ((H1.take s).map U.str)) hh2
  have hfl8 := um_old (o := .lst ((H1.take s).map U.str)) hfl7 hh2
  have hnm8 := um_old (o := .lst ((H1.take s).map U.str)) hnm7 hh2
  have F8 := F7.upd (o := .lst ((H1.take s).map U.str)) (F7.non (d7.ne hh2) hh2)
  have hHl : (H1.take s).length ≤ s ∧ (H1.take s).length ≤ 100 := by rw [List.length_take]; omega
  have hHn : (H1.take s).Nodup := (List.take_sublist _ _).nodup (pH.nodup_iff.mpr hnd3)
  have hHk : ∀ x ∈ H1.take s, ok1 x := fun x hx => hk3 x (pH.mem_iff.mp (List.mem_of_mem_take hx))
  (repeat decreasing_trivial_pre_omega)
  generalize H1.take s = H at *
  generalize um M7 h2 (.lst (H.map U.str)) = M8 at *
  intro o hoN
  have d9 := d8.upd (o := .lst []) hoN
  have o1 := d8.ne hoN
  (repeat decreasing_trivial_pre_omega)
  intro rw hwN
  have d10 := d9.upd (o := .lst []) hwN
  have w1 := d9.ne hwN
  have w2 := d9.ne2 hwN
  have wo : rw ≠ o := um_noneN hwN
  have hw0 := um_none hwN
  have wfl : rw ≠ fl := fun e => by rw [e, hfl8] at hw0; cases hw0
  have wnm : rw ≠ nm := fun e => by rw [e, hnm8] at hw0; cases hw0
  have F10 := (F8.upd (o := .lst []) (F8.non o1 hoN)).upd (o := .lst []) (F8.non w1 hw0)
  have hfl10 := um_old (o := .lst []) (um_old (o := .lst []) hfl8 hoN) hwN
  have hnm10 := um_old (o := .lst []) (um_old (o := .lst []) hnm8 hoN) hwN
  have ho10 : um (um M8 o (.lst [])) rw (.lst []) o = some (.lst []) := um_oth wo.symm um_same
  have hw10 : um (um M8 o (.lst [])) rw (.lst []) rw = some (.lst []) := um_same
  have hMw : M rw = none := F8.non w1 hw0
  generalize um (um M8 o (.lst [])) rw (.lst []) = M10 at *
  (repeat decreasing_trivial_pre_omega)
  refine ⟨by unfold LIM; omega, by unfold LIM; omega, ?_⟩
  rw [rngU_nat]
  refine forL_by (enc := fun i : Nat => U.int (i : Nat)) (fun don rest σ M' => ∃ o u10 u11 u12 u13 G rowsL, σ = [some (.ref p.1), some (.int n), some (.int s), some (.int R), some (.int nodes), some (.ref fl), some (.ref nm), some (.tup (H.map U.str)), some (.ref o), some (.ref rw), u10, u11, u12, u13, none, none] ∧ Dr M' p ∧ Fr2 p rw M10 M' ∧ o ≠ p.1 ∧ o ≠ rw ∧ M' o = some (.lst (G.map U.ref)) ∧ G.length = don.length ∧ (∀ r ∈ G, r ≠ rw ∧ ∃ l, StrsAt M' p r ok1 l) ∧ M' rw = some (.lst (rowsL.map encRow)) ∧ rowsL.map (·.1) = NM.take don.length ∧ (∀ r ∈ rowsL, BP (n + 1) (fun f c => ok1 f ∧ 0 ≤ c ∧ c < n) (fun r => r ∈ NM) ok1 9 r.2 ∧ sz r.2 ≤ 67)) (List.range R)
    ⟨o, _, _, _, _, [], [], rfl, d10, fun _ _ _ _ h => h, o1, wo.symm, ho10, rfl, (by intro r hr; cases hr), hw10, (by simp), (by intro r hr; cases hr)⟩ ?_ ?_
  · intro don i rest σ M' kk e ⟨o, u10, u11, u12, u13, G, rowsL, e1, e2, e3, e4, e5, e6, e7, e8, e9, e10, e11⟩ hkk
    subst e1
    have hi : i = don.length := by
      have h1 : (List.range R)[don.length]? = some i := by rw [← e]; simp
      rw [List.getElem?_range (by
        have : don.length + rest.length + 1 = R := by rw [← List.length_range (n := R), ← e]; simp; omega
        omega)] at h1
      exact (Option.some.inj h1).symm
    subst hi
    have hlen : don.length < R := by
      have : don.length + rest.length + 1 = R := by rw [← List.length_range (n := R), ← e]; simp; omega
      omega
    have hfl' := e3 fl fl1 wfl.symm _ hfl10
    have hnm' := e3 nm nm1 wnm.symm _ hnm10
    have hrl : rowsL.length = don.length := by
      have := congrArg List.length e10
      rw [List.length_map, List.length_take] at this
      omega
    refine tg_one ?_
    refine tidy_mine hd e2 fl1 hfl' hF hFk (by omega) fun m Mi M11 hm hml hmN d11 f11 => ?_
    refine tidy_mid hr d11 fl1 (f11.at_ fl1 hfl') hF hFk hm hml fun x X M12 hx d12 f12 => ?_
    have f := f11.trans f12
    have mw : m ≠ rw := fun z => by rw [z, e9] at hmN; cases hmN
    refine tidy_tail hb n0 n1 d12 hHl.2 hHk nm1 (f.at_ nm1 hnm') (by omega) (k := don.length) (by omega) (hm.fr f12) hx e4 (f.at_ e4 e6) e7 (fun r hr => ?_) w1 w2 (f.at_ w1 e9) (by omega) e5 fun o' t bd M13 hbd hbn d13 fr13 o'1 o'w ho' hw' => ?_
    · obtain ⟨g1, l, g2⟩ := e8 r hr
      exact ⟨g1, l, g2.fr f⟩
    have hmx := (hm.fr f12)
    refine hkk _ _ trivial ⟨o', _, _, _, _, _, _, rfl, d13, fun a g1 g2 ob hob => fr13 a g1 g2 ob (f.at_ g1 (e3 a g1 g2 ob hob)), o'1, o'w, ho', by simp [e7], fun r hr => ?_, hw', ?_, fun r hr => ?_⟩
    · rcases List.mem_append.mp hr with hr | hr
      · obtain ⟨g1, l, g2⟩ := e8 r hr
        have g3 := g2.fr f
        exact ⟨g1, l, g3.1, g3.2.1, g3.2.2.1, fr13 r g3.1 g1 _ g3.2.2.2⟩
      · rw [List.mem_singleton] at hr
        subst hr
        exact ⟨mw, Mi, hmx.1, hmx.2.1, hmx.2.2.1, fr13 r hmx.1 mw _ hmx.2.2.2⟩
    · rw [List.map_append, e10, List.length_append, List.length_singleton, List.take_add_one, List.getElem?_eq_getElem (by omega)]
      rfl
    · rcases List.mem_append.mp hr with hr | hr
      · exact e11 r hr
      · rw [List.mem_singleton] at hr; subst hr; exact ⟨hbd, Nat.le_trans (sz_ten hnd n0 hn4 hbn) (by decide)⟩
  · intro σ M' ⟨o, u10, u11, u12, u13, G, rowsL, e1, e2, e3, e4, e5, e6, e7, e8, e9, e10, e11⟩
    subst e1
    rw [List.length_range, List.take_of_length_le (by omega)] at e10
    have hrl : rowsL.length = R := by rw [← List.length_map (f := (·.1)), e10, hNl]
    (repeat decreasing_trivial_pre_omega)
    refine ⟨by unfold LIM; omega, by unfold LIM; omega, ?_⟩
    (repeat decreasing_trivial_pre_omega)
    intro ra hra
    rw [rngU_nat]
    refine hs _ p ra _ _ (e2.upd hra) um_same (by rw [List.length_map, List.length_range]; omega) fun oq ws M14 pe d14 f14 oq1 oq2 _ hoq => ?_
    obtain ⟨L, rfl, pL⟩ := perm_map (fun i : Nat => U.int (i : Nat)) pe rfl
    have hw14 := f14.at_ w1 (um_old e9 hra)
    (repeat decreasing_trivial_pre_omega)
    refine compL_by (enc := fun i : Nat => U.int (i : Nat)) (fun don rest acc M' => M' = M14 ∧ acc = don.map fun i => encRow (rowsL.getD i ("", .done))) L ⟨rfl, rfl⟩ ?_ ?_
    · intro don i rest acc M' k e ⟨g1, g2⟩ hk
      subst g1 g2
      have hi : i < rowsL.length := by
        rw [hrl]
        exact (getD_perm_mem pL).mp (by rw [← e]; simp)
      (repeat decreasing_trivial_pre_omega)
      refine x_lst (v := encRow (rowsL.getD i ("", .done))) hw14 (by rw [atI_nat (by rw [List.length_map]; exact hi), List.getElem_map, List.getD_eq_getElem?_getD, List.getElem?_eq_getElem hi]; rfl) ?_
      (repeat decreasing_trivial_pre_omega)
      refine hk _ _ hoq (fun _ => ?_) ⟨rfl, by simp⟩
      have h1 : don.length + rest.length + 1 = L.length := by rw [← e]; simp; omega
      rw [pL.length_eq, List.length_range] at h1
      rw [List.length_map]
      unfold LIM
      omega
    · intro acc M' ⟨g1, g2⟩
      subst g1 g2
      intro y hy
      (repeat decreasing_trivial_pre_omega)
      have hrows : ∀ r ∈ L.map (fun i => rowsL.getD i (("" : Str), Bd.done)), r ∈ rowsL := fun r hr => by
        obtain ⟨i, hi, rfl⟩ := List.mem_map.mp hr
        have hi2 : i < rowsL.length := by rw [hrl]; exact (getD_perm_mem pL).mp hi
        rw [List.getD_eq_getElem?_getD, List.getElem?_eq_getElem hi2]
        exact List.getElem_mem hi2
      have hall : ∀ x ∈ NM, x ∈ (L.map (fun i => rowsL.getD i (("" : Str), Bd.done))).map (·.1) := fun x hx => by
        rw [← e10] at hx
        obtain ⟨r, hr, rfl⟩ := List.mem_map.mp hx
        obtain ⟨i, hi, rfl⟩ := List.getElem_of_mem hr
        refine List.mem_map.mpr ⟨rowsL[i], List.mem_map.mpr ⟨i, (getD_perm_mem pL).mpr (by omega), ?_⟩, rfl⟩
        rw [List.getD_eq_getElem?_getD, List.getElem?_eq_getElem hi]
        rfl
      have hLl : (L.map (fun i => rowsL.getD i (("" : Str), Bd.done))).length = R := by rw [List.length_map, pL.length_eq, List.length_range]
      have hrp : (L.map (fun i => rowsL.getD i (("" : Str), Bd.done))).Perm rowsL := by
        refine (pL.map _).trans (List.Perm.of_eq ?_)
        refine List.ext_getElem (by rw [List.length_map, List.length_range, hrl]) fun i h1 h2 => ?_
        rw [List.getElem_map, List.getElem_range, List.getD_eq_getElem?_getD, List.getElem?_eq_getElem h2]
        rfl
      have hnd2 : ((L.map (fun i => rowsL.getD i (("" : Str), Bd.done))).map (·.1)).Nodup := (hrp.map _).nodup_iff.mpr (by rw [e10]; exact hNd)
      have hbk := BkG.mk' (n := n) (heads := H) (rows := L.map (fun i => rowsL.getD i (("" : Str), Bd.done))) (j := 9) n0 n1 hHk hHl.2 (by omega) (by omega) hnd2 hHn (fun r hr => (e11 r (hrows r hr)).2) fun r hr => ⟨hNk _ (by rw [← e10]; exact List.mem_map.mpr ⟨r, hrows r hr, rfl⟩), (e11 r (hrows r hr)).1.mono (fun _ _ h => h) hall (fun _ h => h)⟩
      have hfr : Fr p M (um M' y (.lst (L.map fun i => encRow (rowsL.getD i (("" : Str), Bd.done))))) := by
        intro a g1 ob hob
        have aw : a ≠ rw := fun z => by rw [z, hMw] at hob; cases hob
        exact um_old (f14.at_ g1 (um_old (e3 a g1 aw _ (F10 a g1 ob hob)) hra)) hy
      have e12 : (L.map fun i => encRow (rowsL.getD i (("" : Str), Bd.done))) = (L.map (fun i => rowsL.getD i (("" : Str), Bd.done))).map encRow := by rw [List.map_map]; rfl
      rw [e12] at hfr ⊢
      exact hq _ _ hbk rfl hHl.1 hLl (d14.upd hy) hfr
end Pl

set_option maxHeartbeats 2000000
/-! wild books; what lies below a body -/
namespace Pl
open PySem L2
theorem rep_flat (R : Nat) (fl : Addr) : (List.replicate ((R : Int).toNat) [U.ref fl]).flatten = (List.replicate R fl).map U.ref := by
  rw [Int.toNat_natCast]
  induction R with
  | zero => rfl
  | succ R ih => rw [List.replicate_succ, List.flatten_cons, ih, List.replicate_succ]; rfl
theorem wild_tail {C : CE} {fb : Nat} (hb : BodyC C fb 0) {nx bk ct : SU → Hm → Prop} {rt : QU} {M : Hm} {p : Addr × Addr} {n k R : Nat} {H NM FL Mi : List Str} {rowsL : List (Str × Bd)} {nm fl rw m : Addr} {u2 u11 : Option U} {nodes : Int} (n0 : 0 < n) (n1 : n < 100) (hR : R ≤ 8) (d : Dr M p)
    (hH : H.length ≤ 100) (hHk : ∀ h ∈ H, ok1 h) (nm1 : nm ≠ p.1) (hnm : M nm = some (.lst (NM.map U.str))) (hNl : NM.length = R) (hk : k < R) (hm : StrsAt M p m ok1 Mi) (hx : StrsAt M p fl ok1 FL)
    (w1 : rw ≠ p.1) (w2 : rw ≠ p.2) (hw : M rw = some (.lst (rowsL.map encRow))) (hrl : rowsL.length ≤ 100)
    (hq : ∀ t bd M', BP (n + 1) (fun f c => ok1 f ∧ 0 ≤ c ∧ c < n) (fun r => r ∈ NM) ok1 9 bd → BN n nodes bd → Dr M' p → Fr2 p rw M M' → M' rw = some (.lst ((rowsL ++ [(NM[k]'(by omega), bd)]).map encRow)) →
      nx [some (.ref p.1), some (.int n), u2, some (.int R), some (.int nodes), some (.ref fl), some (.ref nm), some (.tup (H.map U.str)), some (.ref rw), some (.int k), some (.ref m), t] M') :
    wS C (.seq (.asg 11 (.lst (.cons (.var 1) (.cons (.var 7) (.cons (.var 10) (.cons (.bin .mul (.lst (.cons (.var 5) .nil)) (.var 3)) (.cons (.var 6) (.cons (.var 5) .nil)))))))) (.seq (.expr (.mth .append (.var 8) (.cons (.tup (.cons (.ix (.var 6) (.var 9)) (.cons (.call fb (.cons (.var 0) (.cons (.var 11) (.cons (.lst .nil) (.cons (.var 4) (.cons (.int 0) .nil)))))) .nil))) .nil))) .skip))
    ⟨nx, rt, bk, ct⟩ [some (.ref p.1), some (.int n), u2, some (.int R), some (.int nodes), some (.ref fl), some (.ref nm), some (.tup (H.map U.str)), some (.ref rw), some (.int k), some (.ref m), u11] M := by
  (repeat decreasing_trivial_pre_omega)
  intro a ha
  have d1 := d.upd (o := .lst [.ref fl]) ha
  (repeat decreasing_trivial_pre_omega)
  refine o_rep um_same (by unfold LIM; omega) (by unfold LIM; omega) (by simp; unfold LIM; omega) fun g hg => ?_
  have eG := rep_flat R fl
  rw [eG]
  have d1' := d1.upd (o := .lst ((List.replicate R fl).map U.ref)) hg
  have g1 := d1.ne hg
  have hg0 := um_none hg
  have ga := um_noneN hg
  (repeat decreasing_trivial_pre_omega)
  intro s hs
  have d2 := d1'.upd (o := .lst [.int n, .tup (H.map U.str), .ref m, .ref g, .ref nm, .ref fl]) hs
  have s1 := d1'.ne hs
  have hs0 := um_none (um_none hs)
  have sg := um_noneN hs
  have wa : rw ≠ a := ne_of_old hw ha
  have ws : rw ≠ s := ne_of_old hw hs0
  have wg : rw ≠ g := ne_of_old hw hg0
  (repeat decreasing_trivial_pre_omega)
  refine x_lst (v := .str (NM[k]'(by omega))) (um_old (um_old (um_old hnm ha) hg) hs) (by rw [atI_nat (by rw [List.length_map]; omega), List.getElem_map]) ?_
  (repeat decreasing_trivial_pre_omega)
  intro q hq0
  have d3 := d2.upd (o := .lst []) hq0
  have q1 := d2.ne hq0
  have hq1 := um_none hq0
  have qs := um_noneN hq0
  have hq2 := um_none hq1
  have qg := um_noneN hq1
  have S0 : Sub M (um (um (um (um M a (.lst [.ref fl])) g (.lst ((List.replicate R fl).map U.ref))) s (.lst [.int n, .tup (H.map U.str), .ref m, .ref g, .ref nm, .ref fl])) q (.lst [])) := sub_um (sub_um (sub_um (sub_um (Sub.refl _) ha) hg0) hs0) (um_none hq2)
  have e_s : um (um (um (um M a (.lst [.ref fl])) g (.lst ((List.replicate R fl).map U.ref))) s (.lst [.int n, .tup (H.map U.str), .ref m, .ref g, .ref nm, .ref fl])) q (.lst []) s = some (.lst [.int n, .tup (H.map U.str), .ref m, .ref g, .ref nm, .ref fl]) := um_oth qs.symm um_same
  have e_g : um (um (um (um M a (.lst [.ref fl])) g (.lst ((List.replicate R fl).map U.ref))) s (.lst [.int n, .tup (H.map U.str), .ref m, .ref g, .ref nm, .ref fl])) q (.lst []) g = some (.lst ((List.replicate R fl).map U.ref)) := um_oth qg.symm (um_oth sg.symm um_same)
  have e_q : um (um (um (um M a (.lst [.ref fl])) g (.lst ((List.replicate R fl).map U.ref))) s (.lst [.int n, .tup (H.map U.str), .ref m, .ref g, .ref nm, .ref fl])) q (.lst []) q = some (.lst []) := um_same
  generalize um (um (um (um M a (.lst [.ref fl])) g (.lst ((List.replicate R fl).map U.ref))) s (.lst [.int n, .tup (H.map U.str), .ref m, .ref g, .ref nm, .ref fl])) q (.lst []) = M3 at d3 S0 e_s e_g e_q ⊢
  have F3 : Fr p M M3 := S0.fr
  have hx3 := hx.fr F3
  (repeat decreasing_trivial_pre_omega)
  refine hb M3 p s q n ok1 (fun r => r ∈ NM) ok1 nodes 9 _ (by decide) n0 n1 d3 ?_ ?_ fun bd M4 hbd hbn d4 fr4 => ?_
  · refine ⟨H, Mi, NM, FL, m, g, nm, fl, List.replicate R fl, .tup (H.map U.str), s1, e_s, ⟨hH, .inr rfl⟩, hHk, hm.fr F3, ⟨nm1, by omega, fun y hy => hy, S0 _ _ hnm⟩, hx3, g1, e_g, by rw [List.length_replicate]; omega, fun r hr => ?_⟩
    rw [List.eq_of_mem_replicate hr]
    exact ⟨FL, hx3⟩
  · exact ⟨[], _, _, _, _, _, g, List.replicate R fl, q1, e_q, by decide, e_s, e_g, s1, g1, by intro i hi; cases hi⟩
  have hw4 := fr4.at_ w1 (S0 _ _ hw)
  (repeat decreasing_trivial_pre_omega)
  refine m_app hw4 (by rw [List.length_map]; unfold LIM; omega) ?_
  have e9 : rowsL.map encRow ++ [.tup [.str (NM[k]'(by omega)), encB bd]] = (rowsL ++ [(NM[k]'(by omega), bd)]).map encRow := by simp [encRow]
  rw [e9]
  have d5 := d4.upd2 (o := .lst ((rowsL ++ [(NM[k]'(by omega), bd)]).map encRow)) w1 w2
  (repeat decreasing_trivial_pre_omega)
  refine hq _ bd _ hbd hbn d5 ?_ um_same
  intro b1 g1 g2 ob hob
  exact um_oth g2 (fr4 b1 g1 _ (S0 _ _ hob))
theorem wild_mine {C : CE} {fp fr : Nat} (hp : PickC C fp) (hr : RareC C fr) {T : S} {nx bk ct : SU → Hm → Prop} {rt : QU} {M : Hm} {p : Addr × Addr} {FL H : List Str} {fl : Addr} {u1 u2 u3 u4 u6 u8 u9 u10 u11 : Option U} (d : Dr M p)
    (hfl : StrsAt M p fl ok1 FL) (hF0 : FL ≠ []) (hH : H.length ≤ 50) (hHk : ∀ h ∈ H, ok1 h)
    (hq : ∀ m Mi M', StrsAt M' p m ok1 Mi → Dr M' p → Fr p M M' → wS C T ⟨nx, rt, bk, ct⟩ [some (.ref p.1), u1, u2, u3, u4, some (.ref fl), u6, some (.tup (H.map U.str)), u8, u9, some (.ref m), u11] M') :
    wS C (.seq (.asg 10 (.lst (.cons (.call fp (.cons (.var 0) (.cons (.var 5) .nil))) (.cons (.call fp (.cons (.var 0) (.cons (.var 5) .nil))) .nil)))) (.seq (.ifs (.call fr (.cons (.var 0) (.cons (.int 9) .nil))) (.seq (.asg 10 (.bin .add (.var 10) (.blt .list (.cons (.var 7) .nil)))) .skip) .skip) T))
    ⟨nx, rt, bk, ct⟩ [some (.ref p.1), u1, u2, u3, u4, some (.ref fl), u6, some (.tup (H.map U.str)), u8, u9, u10, u11] M := by
  have unm : ∀ {x : U}, x ∈ FL.map U.str → ∃ f, f ∈ FL ∧ x = .str f := fun {x} hx => by
    obtain ⟨f, hf, rfl⟩ := List.mem_map.mp hx
    exact ⟨f, hf, rfl⟩
  have hl : (FL.map U.str).length < 1073741824 := by rw [List.length_map]; have := hfl.2.1; omega
  (repeat decreasing_trivial_pre_omega)
  refine hp M p _ _ _ d (.inr ⟨fl, rfl, hfl.1, hfl.2.2.2⟩) (by simpa using hF0) hl fun x M1 hx d1 f1 => ?_
  obtain ⟨x, hx2, rfl⟩ := unm hx
  have hfl1 := hfl.fr f1
  (repeat decreasing_trivial_pre_omega)
  refine hp M1 p _ _ _ d1 (.inr ⟨fl, rfl, hfl1.1, hfl1.2.2.2⟩) (by simpa using hF0) hl fun y M2 hy d2 f2 => ?_
  obtain ⟨y, hy2, rfl⟩ := unm hy
  (repeat decreasing_trivial_pre_omega)
  intro m hm
  have m1 := d2.ne hm
  have d3 := d2.upd (o := .lst [.str x, .str y]) hm
  have f12 := f1.trans f2
  have F3 := f12.upd (o := .lst [.str x, .str y]) (f12.non m1 hm)
  have hmi : StrsAt (um M2 m (.lst [.str x, .str y])) p m ok1 [x, y] := ⟨m1, by simp, fun z hz => by
    rcases List.mem_cons.mp hz with rfl | hz
    · exact hfl.2.2.1 _ hx2
    · rw [List.mem_singleton] at hz; subst hz; exact hfl.2.2.1 _ hy2, um_same⟩
  generalize um M2 m (.lst [.str x, .str y]) = M3 at d3 F3 hmi ⊢
  (repeat decreasing_trivial_pre_omega)
  refine hr M3 p 9 _ d3 (by decide) (by decide) fun b M4 d4 f4 => ?_
  have hm4 := hmi.fr f4
  cases b with
  | false =>
    (repeat decreasing_trivial_pre_omega)
    exact hq m _ M4 hm4 d4 (F3.trans f4)
  | true =>
    obtain ⟨g1, g2, g3, g4⟩ := hm4
    (repeat decreasing_trivial_pre_omega)
    intro a ha
    have d5 := d4.upd (o := .lst (H.map U.str)) ha
    (repeat decreasing_trivial_pre_omega)
    refine o_addL (um_old g4 ha) um_same (by rw [List.length_map, List.length_map]; simp; unfold LIM; omega) fun y' hy' => ?_
    rw [← List.map_append]
    (repeat decreasing_trivial_pre_omega)
    refine hq y' _ _ ⟨d5.ne hy', by simp; omega, fun z hz => ?_, um_same⟩ (d5.upd hy') ((F3.trans f4).trans (sub_um (sub_um (Sub.refl _) ha) (um_none hy')).fr)
    rcases List.mem_append.mp hz with hz | hz
    · exact g3 z hz
    · exact hHk z hz
theorem wild_ok {C : CE} {fb fr fp fs fso fru ffi : Nat} (hb : BodyC C fb 0) (hr : RareC C fr) (hp : PickC C fp) (hs : ShufU C fs) (hso : NamesLC C fso 10) (hru : NamesLC C fru 16) (hfi : NamesLC C ffi 20) {nx bk ct : SU → Hm → Prop} {rt : QU} {M : Hm} {p : Addr × Addr} {n s R : Nat} {nodes : Int} (hnd : (nodes = 10 ∨ nodes = 12)) (hn4 : n ≤ 4) (n0 : 0 < n) (n1 : n < 100) (hR0 : 0 < R) (hR8 : R ≤ 8) (d : Dr M p)
    (hq : ∀ b M', BkG b 9 → b.n = n → b.heads.length ≤ s → b.rows.length = R → Dr M' p → Fr p M M' → rt (encBk b) M') :
    wS C (B_law_wild_book fb fr fp fs fso fru ffi) ⟨nx, rt, bk, ct⟩ (startU 12 [.ref p.1, .int n, .int s, .int R, .int nodes]) M := by
  unfold B_law_wild_book
  (repeat decreasing_trivial_pre_omega)
  refine hfi _ _ fun r1 FL0 M1 s1 _ hr1 hl1 _ hk1 => ?_
  refine hs M1 p r1 _ _ (d.sub s1) hr1 (by rw [List.length_map]; omega) fun fl0 ws1 M2 pe1 d2' f2 _ _ _ hfl0 => ?_
  obtain ⟨FL1, rfl, pFL⟩ := perm_map U.str pe1 rfl
  have F2' : Fr p M M2 := s1.fr.trans f2
  (repeat decreasing_trivial_pre_omega)
  rw [show (some (3 : Int)) = some ((3 : Nat) : Int) from rfl, cutU_take, ← List.map_take]
  intro fl hflN
  have fl1 := d2'.ne hflN
  have d2 := d2'.upd (o := .lst ((FL1.take 3).map U.str)) hflN
  have F2 := F2'.upd (o := .lst ((FL1.take 3).map U.str)) (F2'.non fl1 hflN)
  have hfl : um M2 fl (.lst ((FL1.take 3).map U.str)) fl = some (.lst ((FL1.take 3).map U.str)) := um_same
  have hF : (FL1.take 3).length = 3 := by rw [List.length_take, pFL.length_eq, hl1]; rfl
  have hFk : ∀ x ∈ FL1.take 3, ok1 x := fun x hx => hk1 x (pFL.mem_iff.mp (List.mem_of_mem_take hx))
  generalize FL1.take 3 = FL at *
  generalize um M2 fl (.lst (FL.map U.str)) = M2 at *
  (repeat decreasing_trivial_pre_omega)
  refine hru _ _ fun r2 NM0 M3 s3 _ hr2 hl2 nd2 hk2 => ?_
  refine hs M3 p r2 _ _ (d2.sub s3) hr2 (by rw [List.length_map]; omega) fun nm0 ws2 M4 pe2 d4 f4 _ _ _ hnm0 => ?_
  obtain ⟨NM1, rfl, pNM⟩ := perm_map U.str pe2 rfl
  have hfl4 := f4.at_ fl1 (s3 _ _ hfl)
  have F4 := F2.trans (s3.fr.trans f4)
  have hN1 : NM1.length = 16 := by rw [pNM.length_eq, hl2]
  (repeat decreasing_trivial_pre_omega)
  rw [cutU_take, ← List.map_take]
  intro nm hnmN
  have d5 := d4.upd (o := .lst ((NM1.take R).map U.str)) hnmN
  have nm1 := d4.ne hnmN
  have hfl5 := um_old (o := .lst ((NM1.take R).map U.str)) hfl4 hnmN
  have F5 := F4.upd (o := .lst ((NM1.take R).map U.str)) (F4.non nm1 hnmN)
  have hnm : um M4 nm (.lst ((NM1.take R).map U.str)) nm = some (.lst ((NM1.take R).map U.str)) := um_same
  have hNl : (NM1.take R).length = R := by rw [List.length_take]; omega
  have hNk : ∀ x ∈ NM1.take R, ok1 x := fun x hx => hk2 x (pNM.mem_iff.mp (List.mem_of_mem_take hx))
  have hNd : (NM1.take R).Nodup := (pNM.nodup_iff.mpr nd2).sublist (List.take_sublist _ _)
  generalize NM1.take R = NM at *
  generalize um M4 nm (.lst (NM.map U.str)) = M5 at *
  (repeat decreasing_trivial_pre_omega)
  refine hso _ _ fun r3 H0 M6 s6 _ hr3 hl3 hnd3 hk3 => ?_
  refine hs M6 p r3 _ _ (d5.sub s6) hr3 (by rw [List.length_map]; omega) fun h1 ws3 M7 pe3 d7 f7 _ _ _ hh1 => ?_
  obtain ⟨H1, rfl, pH⟩ := perm_map U.str pe3 rfl
  have hfl7 := f7.at_ fl1 (s6 _ _ hfl5)
  have hnm7 := f7.at_ nm1 (s6 _ _ hnm)
  have F7 := F5.trans (s6.fr.trans f7)
  have hH1 : H1.length = 10 := by rw [pH.length_eq, hl3]
  (repeat decreasing_trivial_pre_omega)
  rw [cutU_take, ← List.map_take]
  intro h2 hh2
  have d8 := d7.upd (o := .lst ((H1.take s).map U.str)) hh2
  have hfl8 := um_old (o := .lst ((H1.take s).map U.str)) hfl7 hh2
  have hnm8 := um_old (o := .lst ((H1.take s).map U.str)) hnm7 hh2
  have F8 := F7.upd (o := .lst ((H1.take s).map U.str)) (F7.non (d7.ne hh2) hh2)
  have hHl : (H1.take s).length ≤ s ∧ (H1.take s).length ≤ 50 := by rw [List.length_take]; omega
  have hHn : (H1.take s).Nodup := (List.take_sublist _ _).nodup (pH.nodup_iff.mpr hnd3)
  have hHk : ∀ x ∈ H1.take s, ok1 x := fun x hx => hk3 x (pH.mem_iff.mp (List.mem_of_mem_take hx))
  (repeat decreasing_trivial_pre_omega)
  generalize H1.take s = H at *
  generalize um M7 h2 (.lst (H.map U.str)) = M8 at *
  intro rw hwN
  have d10 := d8.upd (o := .lst []) hwN
  have w1 := d8.ne hwN
  have w2 := d8.ne2 hwN
  have wfl : rw ≠ fl := fun e => by rw [e, hfl8] at hwN; cases hwN
  have wnm : rw ≠ nm := fun e => by rw [e, hnm8] at hwN; cases hwN
  have F10 := F8.upd (o := .lst []) (F8.non w1 hwN)
  have hfl10 := um_old (o := .lst []) hfl8 hwN
  have hnm10 := um_old (o := .lst []) hnm8 hwN
  have hw10 : um M8 rw (.lst []) rw = some (.lst []) := um_same
  have hMw : M rw = none := F8.non w1 hwN
  generalize um M8 rw (.lst []) = M10 at *
  (repeat decreasing_trivial_pre_omega)
  refine ⟨by unfold LIM; omega, by unfold LIM; omega, ?_⟩
  rw [rngU_nat]
  refine forL_by (enc := fun i : Nat => U.int (i : Nat)) (fun don rest σ M' => ∃ u9 u10 u11 rowsL, σ = [some (.ref p.1), some (.int n), some (.int s), some (.int R), some (.int nodes), some (.ref fl), some (.ref nm), some (.tup (H.map U.str)), some (.ref rw), u9, u10, u11] ∧ Dr M' p ∧ Fr2 p rw M10 M' ∧ M' rw = some (.lst (rowsL.map encRow)) ∧ rowsL.map (·.1) = NM.take don.length ∧ (∀ r ∈ rowsL, BP (n + 1) (fun f c => ok1 f ∧ 0 ≤ c ∧ c < n) (fun r => r ∈ NM) ok1 9 r.2 ∧ sz r.2 ≤ 67)) (List.range R)
    ⟨_, _, _, [], rfl, d10, fun _ _ _ _ h => h, hw10, (by simp), (by intro r hr; cases hr)⟩ ?_ ?_
  · intro don i rest σ M' kk e ⟨u9, u10, u11, rowsL, e1, e2, e3, e9, e10, e11⟩ hkk
    subst e1
    have hi : i = don.length := by
      have h1 : (List.range R)[don.length]? = some i := by rw [← e]; simp
      rw [List.getElem?_range (by
        have : don.length + rest.length + 1 = R := by rw [← List.length_range (n := R), ← e]; simp; omega
        omega)] at h1
      exact (Option.some.inj h1).symm
    subst hi
    have hlen : don.length < R := by
      have : don.length + rest.length + 1 = R := by rw [← List.length_range (n := R), ← e]; simp; omega
      omega
    have hfl' := e3 fl fl1 wfl.symm _ hfl10
    have hnm' := e3 nm nm1 wnm.symm _ hnm10
    have hrl : rowsL.length = don.length := by
      have := congrArg List.length e10
      rw [List.length_map, List.length_take] at this
      omega
    refine tg_one ?_
    have hFS : StrsAt M' p fl ok1 FL := ⟨fl1, by omega, hFk, hfl'⟩
    refine wild_mine hp hr e2 hFS (by intro z; rw [z] at hF; cases hF) hHl.2 hHk fun m Mi M12 hm d12 f => ?_
    refine wild_tail hb n0 n1 hR8 d12 (by omega) hHk nm1 (f.at_ nm1 hnm') hNl (k := don.length) hlen hm (hFS.fr f) w1 w2 (f.at_ w1 e9) (by omega) fun t bd M13 hbd hbn d13 fr13 hw' => ?_
    refine hkk _ _ trivial ⟨_, _, _, _, rfl, d13, fun a g1 g2 ob hob => fr13 a g1 g2 ob (f.at_ g1 (e3 a g1 g2 ob hob)), hw', ?_, fun r hr => ?_⟩
    · rw [List.map_append, e10, List.length_append, List.length_singleton, List.take_add_one, List.getElem?_eq_getElem (by omega)]
      rfl
    · rcases List.mem_append.mp hr with hr | hr
      · exact e11 r hr
      · rw [List.mem_singleton] at hr; subst hr; exact ⟨hbd, Nat.le_trans (sz_ten hnd n0 hn4 hbn) (by decide)⟩
  · intro σ M' ⟨u9, u10, u11, rowsL, e1, e2, e3, e9, e10, e11⟩
    subst e1
    rw [List.length_range, List.take_of_length_le (by omega)] at e10
    have hrl : rowsL.length = R := by rw [← List.length_map (f := (·.1)), e10, hNl]
    (repeat decreasing_trivial_pre_omega)
    have hbk := BkG.mk' (n := n) (heads := H) (rows := rowsL) (j := 9) n0 n1 hHk (by omega) (by omega) (by omega) (by rw [e10]; exact hNd) hHn (fun r hr => (e11 r hr).2) fun r hr => ⟨hNk _ (by rw [← e10]; exact List.mem_map.mpr ⟨r, hr, rfl⟩), (e11 r hr).1.mono (fun _ _ h => h) (fun x hx => by rw [e10]; exact hx) (fun _ h => h)⟩
    refine hq _ _ hbk rfl hHl.1 hrl e2 ?_
    intro a g1 ob hob
    have aw : a ≠ rw := fun z => by rw [z, hMw] at hob; cases hob
    exact e3 a g1 aw _ (F10 a g1 ob hob)
end Pl

set_option maxHeartbeats 2000000
/-! what lies below a body -/
namespace Pl
open PySem L2
def kidsM : Bd → List Bd
  | .done => []
  | .put _ _ b => [b]
  | .ask _ b => [b]
  | .see _ bs => bs
theorem kids_ok {C : CE} {nx bk ct : SU → Hm → Prop} {rt : QU} {M : Hm} {b : Bd} (hq : ∀ r M', M r = none → Sub M M' → M' r = some (.lst ((kidsM b).map encB)) → rt (.ref r) M') : wS C B_law_bodies_of ⟨nx, rt, bk, ct⟩ (startU 1 [encB b]) M := by
  unfold B_law_bodies_of
  cases b with
  | done =>
    unfold encB
    (repeat decreasing_trivial_pre_omega)
    intro r hr
    exact hq r _ hr (sub_um (Sub.refl _) hr) um_same
  | put f c b =>
    unfold encB
    (repeat decreasing_trivial_pre_omega)
    intro r hr
    exact hq r _ hr (sub_um (Sub.refl _) hr) um_same
  | ask f b =>
    unfold encB
    (repeat decreasing_trivial_pre_omega)
    intro r hr
    exact hq r _ hr (sub_um (Sub.refl _) hr) um_same
  | see f bs =>
    unfold encB
    (repeat decreasing_trivial_pre_omega)
    intro r hr
    rw [encBs_map] at *
    exact hq r _ hr (sub_um (Sub.refl _) hr) um_same
def KidsC (C : CE) (f : Nat) : Prop := ∀ (M : Hm) (b : Bd) (Q : QU), (∀ r M', M r = none → Sub M M' → M' r = some (.lst ((kidsM b).map encB)) → Q (.ref r) M') → C f [encB b] M Q
section
variable {n : Nat} {pp : Str → Int → Prop} {pa ps : Str → Prop}
theorem BP.kids {j : Nat} {b : Bd} (h : BP n pp pa ps j b) : (kidsM b).length ≤ n + 1 ∧ ∀ x ∈ kidsM b, ∃ i, BP n pp pa ps i x := by
  cases h with
  | done => exact ⟨Nat.zero_le _, fun x hx => by cases hx⟩
  | put a h => exact ⟨by simp [kidsM], fun x hx => by rw [List.mem_singleton.mp hx]; exact ⟨_, h⟩⟩
  | ask a h => exact ⟨by simp [kidsM], fun x hx => by rw [List.mem_singleton.mp hx]; exact ⟨_, h⟩⟩
  | see a l h => exact ⟨by show List.length _ ≤ _; simp only [kidsM]; omega, fun x hx => ⟨_, h x hx⟩⟩
theorem BP.up {j : Nat} {b : Bd} (h : BP n pp pa ps j b) : BP n pp pa ps (j + 1) b := by
  induction h with
  | done => exact .done
  | put a _ ih => exact .put a ih
  | ask a _ ih => exact .ask a ih
  | see a l _ ih => exact .see a l ih
theorem szs_app : ∀ {a b : List Bd}, sz.szs (a ++ b) = sz.szs a + sz.szs b
  | [], b => (Nat.zero_add _).symm
  | x :: a, b => by
    show sz x + sz.szs (a ++ b) = sz x + sz.szs a + sz.szs b
    rw [szs_app, Nat.add_assoc]
theorem sz_kids (b : Bd) : sz b = 1 + sz.szs (kidsM b) := by
  cases b <;> rfl
def WoC (C : CE) (f j : Nat) : Prop := ∀ (M : Hm) (b : Bd) (n : Nat) (pp : Str → Int → Prop) (pa ps : Str → Prop) (Q : QU), n ≤ 100 → BP n pp pa ps j b → (∀ b' M', BP n pp pa ps j b' → sz b' ≤ sz b → Sub M M' → Q (encB b') M') → C f [encB b] M Q
theorem without_ok {C : CE} {f j : Nat} (h : ∀ i, j = i + 1 → WoC C f i) {nx bk ct : SU → Hm → Prop} {rt : QU} {M : Hm} {b : Bd} (hn : n ≤ 100) (hb : BP n pp pa ps j b) (hq : ∀ b' M', BP n pp pa ps j b' → sz b' ≤ sz b → Sub M M' → rt (encB b') M') : wS C (B_law_without_asks f) ⟨nx, rt, bk, ct⟩ (startU 2 [encB b]) M := by
  unfold B_law_without_asks
  cases hb with
  | done =>
    unfold encB
    (repeat decreasing_trivial_pre_omega)
    exact hq .done M .done (Nat.le_refl _) (Sub.refl _)
  | @put j fi c k a hk =>
    have h := h j rfl
    unfold encB
    (repeat decreasing_trivial_pre_omega)
    refine h _ _ _ _ _ _ _ hn hk fun b' M' hb' hz s => ?_
    (repeat decreasing_trivial_pre_omega)
    exact hq (.put fi c b') M' (.put a hb') (Nat.add_le_add_left hz 1) s
  | @ask j r k a hk =>
    have h := h j rfl
    unfold encB
    (repeat decreasing_trivial_pre_omega)
    refine h _ _ _ _ _ _ _ hn hk fun b' M' hb' hz s => ?_
    exact hq b' M' hb'.up (Nat.le_trans hz (Nat.le_add_left _ 1)) s
  | @see j fi bs a l hk =>
    have h := h j rfl
    unfold encB
    rw [encBs_map]
    (repeat decreasing_trivial_pre_omega)
    refine compL_by (enc := encB) (fun don rest acc M' => Sub M M' ∧ ∃ cs : List Bd, acc = cs.map encB ∧ cs.length = don.length ∧ sz.szs cs ≤ sz.szs don ∧ ∀ c ∈ cs, BP n pp pa ps j c) bs ⟨Sub.refl _, [], rfl, rfl, Nat.le_refl _, by simp⟩ ?_ ?_
    · intro don x rest acc M' k e ⟨e1, cs, e2, e3, ez, e4⟩ hk2
      subst e2
      (repeat decreasing_trivial_pre_omega)
      refine h _ _ _ _ _ _ _ hn (hk x (by rw [← e]; simp)) fun b' M2 hb' hz s => ?_
      refine hk2 _ _ trivial (fun _ => ?_) ⟨e1.trans s, cs ++ [b'], by simp, by simp [e3], by rw [szs_app, szs_app]; exact Nat.add_le_add ez (Nat.add_le_add_right hz 0), fun c hc => ?_⟩
      · have : don.length + rest.length + 1 = bs.length := by rw [← e]; simp; omega
        rw [List.length_map]
        unfold LIM
        omega
      · rcases List.mem_append.mp hc with hc | hc
        · exact e4 c hc
        · rw [List.mem_singleton] at hc; subst hc; exact hb'
    · intro acc M' ⟨e1, cs, e2, e3, ez, e4⟩
      subst e2
      intro y hy
      (repeat decreasing_trivial_pre_omega)
      have := hq (.see fi cs) (um M' y (.lst (cs.map encB))) (.see a (by omega) e4) (Nat.add_le_add_left ez 1) (e1.trans (sub_um (Sub.refl _) hy))
      unfold encB at this
      rw [encBs_map] at this
      exact this
def PutFC (C : CE) (f : Nat) : Prop := ∀ (M : Hm) (b : Bd) (n j : Nat) (pp : Str → Int → Prop) (pa ps : Str → Prop) (Q : QU), n ≤ 100 → (∀ f c, pp f c → ok1 f) → BP n pp pa ps j b → (∀ (r : Addr) (l : List Str) M', M r = none → Sub M M' → M' r = some (.lst (l.map U.str)) → l.length ≤ 200 → (∀ x ∈ l, ok1 x) → Q (.ref r) M') → C f [encB b] M Q
theorem last_get {α : Type} (l : List α) (x : α) : (l ++ [x])[(l ++ [x]).length - 1]? = some x := by simp
theorem putf_ok {C : CE} {f j : Nat} (hk : KidsC C f) {nx bk ct : SU → Hm → Prop} {rt : QU} {M : Hm} {b : Bd} (hn : n ≤ 100) (hpp : ∀ f c, pp f c → ok1 f) (hb : BP n pp pa ps j b)
    (hq : ∀ (r : Addr) (l : List Str) M', M r = none → Sub M M' → M' r = some (.lst (l.map U.str)) → l.length ≤ 200 → (∀ x ∈ l, ok1 x) → rt (.ref r) M') : wS C (B_law_put_files f) ⟨nx, rt, bk, ct⟩ (startU 5 [encB b]) M := by
  unfold B_law_put_files
  (repeat decreasing_trivial_pre_omega)
  intro r hr
  (repeat decreasing_trivial_pre_omega)
  intro q hq0
  have qr := um_noneN hq0
  have q0 := um_none hq0
  (repeat decreasing_trivial_pre_omega)
  refine ⟨by simp [LIM], by simp [LIM], ?_⟩
  rw [show (200 : Int) = ((200 : Nat) : Int) from rfl, rngU_nat]
  refine forL_by (enc := fun i : Nat => U.int (i : Nat)) (fun don rest σ M' => ∃ u3 u4 l lf, σ = [some (encB b), some (.ref r), some (.ref q), u3, u4] ∧ Sub M M' ∧ M' r = some (.lst (l.map U.str)) ∧ M' q = some (.lst (lf.map encB)) ∧ l.length ≤ don.length ∧ lf.length ≤ 1 + 101 * don.length ∧ (∀ x ∈ l, ok1 x) ∧ ∀ x ∈ lf, ∃ i, BP n pp pa ps i x) (List.range 200)
    ⟨_, _, [], [b], rfl, sub_um (sub_um (Sub.refl _) hr) q0, um_oth qr.symm um_same, um_same, Nat.le_refl _, by simp, (by simp), by intro x hx; rw [List.mem_singleton] at hx; subst hx; exact ⟨_, hb⟩⟩ ?_ ?_
  · intro don i rest σ M' kk e ⟨u3, u4, l, lf, e1, e2, e3, e4, e5, e6, e7, e8⟩ hkk
    subst e1
    have hlen : don.length < 200 := by
      have : don.length + rest.length + 1 = 200 := by rw [← List.length_range (n := 200), ← e]; simp; omega
      omega
    rcases List.eq_nil_or_concat lf with rfl | ⟨li, x, rfl⟩
    · (repeat decreasing_trivial_pre_omega)
      exact hq r l M' hr e2 e3 (by omega) e7
    · rw [List.concat_eq_append] at *
      obtain ⟨ix, hx⟩ := e8 x (by simp)
      have e4' : M' q = some (.lst (li.map encB ++ [encB x])) := by rw [e4, List.map_append]; rfl
      have hnn : ¬ li.map encB ++ [encB x] = [] := by simp
      have rq : r ≠ q := qr.symm
      -- behind the put
      have rest2 : ∀ (bk2 : SU → Hm → Prop) (l2 : List Str) (M2 : Hm), Sub M M2 → M2 r = some (.lst (l2.map U.str)) → M2 q = some (.lst (li.map encB)) → l2.length ≤ don.length + 1 → (∀ x ∈ l2, ok1 x) →
          wS C (.seq (.expr (.mth .extend (.var 2) (.cons (.call f (.cons (.var 4) .nil)) .nil))) .skip) ⟨kk, rt, bk2, kk⟩ [some (encB b), some (.ref r), some (.ref q), some (.int i), some (encB x)] M2 := fun bk2 l2 M2 g1 g2 g3 g4 g5 => by
        (repeat decreasing_trivial_pre_omega)
        refine hk _ _ _ fun y M3 hy s3 hy3 => ?_
        have g2' := s3 _ _ g2
        have g3' := s3 _ _ g3
        have hkl := hx.kids
        rw [List.length_append, List.length_singleton] at e6
        (repeat decreasing_trivial_pre_omega)
        refine m_ext g3' hy3 (by rw [List.length_map, List.length_map]; unfold LIM; omega) ?_
        rw [← List.map_append]
        (repeat decreasing_trivial_pre_omega)
        refine hkk _ _ trivial ⟨_, _, l2, li ++ kidsM x, rfl, sub_um (g1.trans s3) q0, um_oth rq g2', um_same, by simp; omega, by simp only [List.length_append, List.length_singleton]; omega, g5, fun z hz => ?_⟩
        rcases List.mem_append.mp hz with hz | hz
        · exact e8 z (List.mem_append_left _ hz)
        · exact hkl.2 z hz
      generalize S.seq (.expr (.mth .extend (.var 2) (.cons (.call f (.cons (.var 4) .nil)) .nil))) .skip = T at rest2 ⊢
      (repeat decreasing_trivial_pre_omega)
      refine m_pop e4' (last_get _ _) ?_
      rw [List.dropLast_concat]
      have r3 : um M' q (.lst (li.map encB)) r = some (.lst (l.map U.str)) := um_oth rq e3
      have s3 : Sub M (um M' q (.lst (li.map encB))) := sub_um e2 q0
      have q3 : um M' q (.lst (li.map encB)) q = some (.lst (li.map encB)) := um_same
      generalize um M' q (.lst (li.map encB)) = M2 at r3 s3 q3 ⊢
      cases hx with
      | done =>
        unfold encB at rest2 ⊢
        (repeat decreasing_trivial_pre_omega)
        exact rest2 _ l M2 s3 r3 q3 (by omega) e7
      | ask a h =>
        unfold encB at rest2 ⊢
        (repeat decreasing_trivial_pre_omega)
        exact rest2 _ l M2 s3 r3 q3 (by omega) e7
      | see a h1 h2 =>
        unfold encB at rest2 ⊢
        (repeat decreasing_trivial_pre_omega)
        exact rest2 _ l M2 s3 r3 q3 (by omega) e7
      | @put _ fi c _ a h =>
        unfold encB at rest2 ⊢
        (repeat decreasing_trivial_pre_omega)
        have okl : okL (l.map U.str) = true := okL_of fun y hy => by
          obtain ⟨s, hs, rfl⟩ := List.mem_map.mp hy
          exact (e7 s hs).s
        refine nin_lst r3 (hpp _ _ a).s okl ?_
        by_cases hin : fi ∈ l
        · refine i_iff (by rw [decide_eq_true (mem_strs.mpr hin)]; rfl) ?_
          (repeat decreasing_trivial_pre_omega)
          exact rest2 _ l M2 s3 r3 q3 (by omega) e7
        · refine i_ift (by rw [decide_eq_false fun z => hin (mem_strs.mp z)]; rfl) ?_
          (repeat decreasing_trivial_pre_omega)
          refine m_app r3 (by rw [List.length_map]; unfold LIM; omega) ?_
          have e9 : l.map U.str ++ [.str fi] = (l ++ [fi]).map U.str := by simp
          rw [e9]
          (repeat decreasing_trivial_pre_omega)
          refine rest2 _ (l ++ [fi]) _ (sub_um s3 hr) um_same (um_oth qr q3) (by simp; omega) fun z hz => ?_
          rcases List.mem_append.mp hz with hz | hz
          · exact e7 z hz
          · rw [List.mem_singleton] at hz; subst hz; exact hpp _ _ a
  · intro σ M' ⟨u3, u4, l, lf, e1, e2, e3, e4, e5, e6, e7, e8⟩
    subst e1
    (repeat decreasing_trivial_pre_omega)
    exact hq r l M' hr e2 e3 (by rw [List.length_range] at e5; omega) e7
def NodesC (C : CE) (f : Nat) : Prop := ∀ (M : Hm) (b : Bd) (n j : Nat) (pp : Str → Int → Prop) (pa ps : Str → Prop) (Q : QU), n ≤ 100 → BP n pp pa ps j b → (∀ (m : Nat) M', Sub M M' → m ≤ 400 → (m = sz b ∨ (m = 400 ∧ 400 ≤ sz b)) → Q (.int m) M') → C f [encB b] M Q
theorem nodes_ok {C : CE} {f j : Nat} (hk : KidsC C f) {nx bk ct : SU → Hm → Prop} {rt : QU} {M : Hm} {b : Bd} (hn : n ≤ 100) (hb : BP n pp pa ps j b)
    (hq : ∀ (m : Nat) M', Sub M M' → m ≤ 400 → (m = sz b ∨ (m = 400 ∧ 400 ≤ sz b)) → rt (.int m) M') : wS C (B_law_nodes f) ⟨nx, rt, bk, ct⟩ (startU 4 [encB b]) M := by
  unfold B_law_nodes
  (repeat decreasing_trivial_pre_omega)
  intro q q0
  (repeat decreasing_trivial_pre_omega)
  refine ⟨by simp [LIM], by simp [LIM], ?_⟩
  rw [show (400 : Int) = ((400 : Nat) : Int) from rfl, rngU_nat]
  refine forL_by (enc := fun i : Nat => U.int (i : Nat)) (fun don rest σ M' => ∃ u3 lf, ∃ m : Nat, σ = [some (encB b), some (.int m), some (.ref q), u3] ∧ Sub M M' ∧ M' q = some (.lst (lf.map encB)) ∧ (m = don.length ∧ m + sz.szs lf = sz b) ∧ lf.length ≤ 1 + 101 * don.length ∧ ∀ x ∈ lf, ∃ i, BP n pp pa ps i x) (List.range 400)
    ⟨_, [b], 0, rfl, sub_um (Sub.refl _) q0, um_same, ⟨rfl, by show 0 + (sz b + 0) = sz b; omega⟩, by simp, by intro x hx; rw [List.mem_singleton] at hx; subst hx; exact ⟨_, hb⟩⟩ ?_ ?_
  · intro don i rest σ M' kk e ⟨u3, lf, m, e1, e2, e4, ⟨e5, ez⟩, e6, e8⟩ hkk
    subst e1
    have hlen : don.length < 400 := by
      have : don.length + rest.length + 1 = 400 := by rw [← List.length_range (n := 400), ← e]; simp; omega
      omega
    rcases List.eq_nil_or_concat lf with rfl | ⟨li, x, rfl⟩
    · (repeat decreasing_trivial_pre_omega)
      exact hq m M' e2 (by omega) (.inl ez)
    · rw [List.concat_eq_append] at *
      obtain ⟨ix, hx⟩ := e8 x (by simp)
      have e4' : M' q = some (.lst (li.map encB ++ [encB x])) := by rw [e4, List.map_append]; rfl
      have hnn : ¬ li.map encB ++ [encB x] = [] := by simp
      have hkl := hx.kids
      rw [List.length_append, List.length_singleton] at e6
      (repeat decreasing_trivial_pre_omega)
      refine m_pop e4' (last_get _ _) ?_
      rw [List.dropLast_concat]
      have s3 : Sub M (um M' q (.lst (li.map encB))) := sub_um e2 q0
      have q3 : um M' q (.lst (li.map encB)) q = some (.lst (li.map encB)) := um_same
      generalize um M' q (.lst (li.map encB)) = M2 at s3 q3 ⊢
      (repeat decreasing_trivial_pre_omega)
      refine hk _ _ _ fun y M3 hy s4 hy3 => ?_
      have g3' := s4 _ _ q3
      (repeat decreasing_trivial_pre_omega)
      refine m_ext g3' hy3 (by rw [List.length_map, List.length_map]; unfold LIM; omega) ?_
      rw [← List.map_append]
      (repeat decreasing_trivial_pre_omega)
      refine hkk _ _ trivial ⟨_, li ++ kidsM x, m + 1, rfl, sub_um (s3.trans s4) q0, um_same, ⟨by simp; omega, by rw [szs_app] at ez ⊢; have := sz_kids x; have e0 : sz.szs [x] = sz x + 0 := rfl; omega⟩, by simp only [List.length_append, List.length_singleton]; omega, fun z hz => ?_⟩
      rcases List.mem_append.mp hz with hz | hz
      · exact e8 z (List.mem_append_left _ hz)
      · exact hkl.2 z hz
  · intro σ M' ⟨u3, lf, m, e1, e2, e4, ⟨e5, ez⟩, e6, e8⟩
    subst e1
    (repeat decreasing_trivial_pre_omega)
    exact hq m M' e2 (by rw [List.length_range] at e5; omega) (.inr (by rw [List.length_range] at e5; omega))
end
end Pl

set_option maxHeartbeats 2000000
/-! spoilt books; books; worlds; goals -/
namespace Pl
open PySem L2
/-- the state on the way through a spoilt book -/
def sg (p : Addr × Addr) (b : Bk) (at_ other : Nat) (name : Str) (bd : Bd) (f : Addr) (way : Nat) (v8 v9 : Option U) : SU := [some (.ref p.1), some (encBk b), some (.int at_), some (.int other), some (.str name), some (encB bd), some (.ref f), some (.int way), v8, v9]
def BPb (b : Bk) (j : Nat) (x : Bd) : Prop := BP (b.n + 1) (fun f c => ok1 f ∧ 0 ≤ c ∧ c < b.n) (fun r => r ∈ b.names) ok1 j x ∧ sz x ≤ 58 + j
theorem row_get {b : Bk} {i : Nat} (h : i < b.rows.length) : atI (b.rows.map encRow) (i : Int) = some (encRow b.rows[i]) := by
  rw [atI_nat (by rw [List.length_map]; exact h), List.getElem_map]
def StrsB (M : Hm) (p : Addr × Addr) (r : Addr) (l : List Str) : Prop := r ≠ p.1 ∧ l.length ≤ 1000 ∧ (∀ x ∈ l, ok1 x) ∧ M r = some (.lst (l.map U.str))
theorem StrsB.fr {M M' : Hm} {p : Addr × Addr} {r : Addr} {l : List Str} (h : StrsB M p r l) (f : Fr p M M') : StrsB M' p r l := ⟨h.1, h.2.1, h.2.2.1, f.at_ h.1 h.2.2.2⟩
theorem BP.le {n : Nat} {pp : Str → Int → Prop} {pa ps : Str → Prop} {j i : Nat} (h : j ≤ i) {b : Bd} (hb : BP n pp pa ps j b) : BP n pp pa ps i b := by
  induction h with
  | refl => exact hb
  | step _ ih => exact ih.up
/-- one step more, if so -/
def stp (P : Prop) [Decidable P] : Nat := if P then 1 else 0
theorem stp_pos {P : Prop} [Decidable P] (h : P) : stp P = 1 := if_pos h
theorem bp_stp {P : Prop} [Decidable P] {b : Bk} {j : Nat} {x : Bd} (h : BPb b j x) : BPb b (j + stp P) x := by
  unfold stp
  split
  · exact ⟨BP.up h.1, Nat.le_succ_of_le h.2⟩
  · exact h
theorem encB_see (f : Str) (bs : List Bd) : encB (.see f bs) = .tup [.str "see", .str f, .tup (bs.map encB)] := by
  rw [← encBs_map]
  rfl
theorem subnon {A B : Hm} {a : Addr} (s : Sub A B) (h : B a = none) : A a = none := by
  cases e : A a with
  | none => rfl
  | some o => rw [s a o e] at h; cases h
section
variable {C : CE} {nx bk ct : SU → Hm → Prop} {rt : QU} {M : Hm} {p : Addr × Addr} {b : Bk} {at_ other way j : Nat} {name : Str} {bd : Bd} {f : Addr} {FS : List Str} {v8 v9 : Option U} {T : S}
theorem sp1 {fw : Nat} (hw : WoC C fw j) (hn : b.n < 100) (d : Dr M p) (hb : BPb b j bd)
    (hq : ∀ bd' M', BPb b j bd' → Dr M' p → Fr p M M' → wS C T ⟨nx, rt, bk, ct⟩ (sg p b at_ other name bd' f way v8 v9) M') :
    wS C (.seq (.ifs (.cmp .eq (.var 7) (.int 1)) (.seq (.asg 5 (.call fw (.cons (.var 5) .nil))) .skip) .skip) T) ⟨nx, rt, bk, ct⟩ (sg p b at_ other name bd f way v8 v9) M := by
  unfold sg at hq ⊢
  (repeat decreasing_trivial_pre_omega)
  refine i_ifd (fun h => ?_) (fun h => ?_)
  · (repeat decreasing_trivial_pre_omega)
    refine hw M bd (b.n + 1) _ _ _ _ (by omega) hb.1 fun b' M' hb' hz s => ?_
    (repeat decreasing_trivial_pre_omega)
    exact hq b' M' ⟨hb', Nat.le_trans hz hb.2⟩ (d.sub s) s.fr
  · (repeat decreasing_trivial_pre_omega)
    exact hq bd M hb d (Fr.refl _ _)
theorem sp2 (ho : other < b.rows.length) (d : Dr M p) (hb : BPb b j bd)
    (hq : ∀ bd' M', BPb b (j + stp (way = 2)) bd' → Dr M' p → Fr p M M' → wS C T ⟨nx, rt, bk, ct⟩ (sg p b at_ other name bd' f way v8 v9) M') :
    wS C (.seq (.ifs (.cmp .eq (.var 7) (.int 2)) (.seq (.asg 5 (.tup (.cons (.str "ask") (.cons (.ix (.ix (.ix (.var 1) (.int 2)) (.var 3)) (.int 0)) (.cons (.var 5) .nil))))) .skip) .skip) T) ⟨nx, rt, bk, ct⟩ (sg p b at_ other name bd f way v8 v9) M := by
  unfold sg at hq ⊢
  (repeat decreasing_trivial_pre_omega)
  refine i_ifd (fun h => ?_) (fun h => ?_)
  · unfold encBk at hq ⊢
    (repeat decreasing_trivial_pre_omega)
    refine x_tup (row_get ho) ?_
    unfold encRow
    (repeat decreasing_trivial_pre_omega)
    exact hq (.ask b.rows[other].1 bd) M (by rw [stp_pos (by omega)]; exact ⟨.ask (List.mem_map.mpr ⟨_, List.getElem_mem ho, rfl⟩) hb.1, by have := hb.2; show 1 + sz bd ≤ _; omega⟩) d (Fr.refl _ _)
  · (repeat decreasing_trivial_pre_omega)
    exact hq bd M (bp_stp hb) d (Fr.refl _ _)
theorem sp3 {fn : Nat} (hN : NodesC C fn) (hn : b.n < 100) (d : Dr M p) (hb : BPb b j bd) (hf : StrsB M p f FS) (hF : 0 < FS.length)
    (hq : ∀ bd' M', BPb b (j + stp (way = 3 ∨ way = 4)) bd' → Dr M' p → Fr p M M' → wS C T ⟨nx, rt, bk, ct⟩ (sg p b at_ other name bd' f way v8 v9) M') :
    wS C (.seq (.ifs (.ands (.cons (.ors (.cons (.cmp .eq (.var 7) (.int 3)) (.cons (.cmp .eq (.var 7) (.int 4)) .nil))) (.cons (.cmp .lt (.bin .mul (.call fn (.cons (.var 5) .nil)) (.bin .add (.ix (.var 1) (.int 0)) (.int 1))) (.int 58)) .nil))) (.seq (.asg 5 (.tup (.cons (.str "see") (.cons (.ix (.var 6) (.int 0)) (.cons (.blt .tuple (.cons (.bin .mul (.lst (.cons (.var 5) .nil)) (.bin .add (.ix (.var 1) (.int 0)) (.int 1))) .nil)) .nil))))) .skip) .skip) T) ⟨nx, rt, bk, ct⟩ (sg p b at_ other name bd f way v8 v9) M := by
  unfold sg at hq ⊢
  have rest : (way = 3 ∨ way = 4) → sz bd * (b.n + 1) < 58 → ∀ (M1 : Hm), Sub M M1 → wS C (.seq (.asg 5 (.tup (.cons (.str "see") (.cons (.ix (.var 6) (.int 0)) (.cons (.blt .tuple (.cons (.bin .mul (.lst (.cons (.var 5) .nil)) (.bin .add (.ix (.var 1) (.int 0)) (.int 1))) .nil)) .nil))))) .skip) ⟨wS C T ⟨nx, rt, bk, ct⟩, rt, bk, ct⟩ [some (.ref p.1), some (encBk b), some (.int at_), some (.int other), some (.str name), some (encB bd), some (.ref f), some (.int way), v8, v9] M1 := fun hway hsz M1 s1 => by
    obtain ⟨g1, g2, g3, g4⟩ := hf.fr (s1.fr (p := p))
    have d1 := d.sub s1
    unfold encBk at hq ⊢
    (repeat decreasing_trivial_pre_omega)
    refine x_lst (v := .str FS[0]) g4 (by rw [show (0 : Int) = ((0 : Nat) : Int) from rfl, atI_nat (by rw [List.length_map]; exact hF), List.getElem_map]) ?_
    (repeat decreasing_trivial_pre_omega)
    intro a ha
    (repeat decreasing_trivial_pre_omega)
    have e1 : ((b.n : Int) + 1).toNat = b.n + 1 := by omega
    refine o_rep um_same (by unfold LIM; omega) (by unfold LIM; omega) (by rw [e1]; simp; unfold LIM; omega) fun g hg => ?_
    rw [e1]
    have e2 : ∀ k : Nat, (List.replicate k [encB bd]).flatten = (List.replicate k bd).map encB := fun k => by
      induction k with
      | zero => rfl
      | succ k ih => rw [List.replicate_succ, List.flatten_cons, ih, List.replicate_succ]; rfl
    have g9 : um (um M1 a (.lst [encB bd])) g (.lst ((List.replicate (b.n + 1) bd).map encB)) g = some (.lst ((List.replicate (b.n + 1) bd).map encB)) := um_same
    rw [e2]
    have s3 := sub_um (o := .lst ((List.replicate (b.n + 1) bd).map encB)) (sub_um (o := .lst [encB bd]) s1 (subnon s1 ha)) (subnon s1 (um_none hg))
    (repeat decreasing_trivial_pre_omega)
    have hsum : sz.szs (List.replicate (b.n + 1) bd) ≤ 57 := by
      have := szs_le (W := sz bd) (bs := List.replicate (b.n + 1) bd) (fun x hx => Nat.le_of_eq (congrArg sz (List.eq_of_mem_replicate hx)))
      rw [List.length_replicate, Nat.mul_comm] at this
      omega
    have := hq (.see FS[0] (List.replicate (b.n + 1) bd)) _ (by rw [stp_pos hway]; exact ⟨.see (g3 _ (List.getElem_mem _)) (by simp) fun x hx => by rw [List.eq_of_mem_replicate hx]; exact hb.1, by show 1 + sz.szs (List.replicate (b.n + 1) bd) ≤ _; omega⟩) (d.sub s3) s3.fr
    rw [encB_see] at this
    exact this
  have nil : ∀ M1, Sub M M1 → wS C T ⟨nx, rt, bk, ct⟩ [some (.ref p.1), some (encBk b), some (.int at_), some (.int other), some (.str name), some (encB bd), some (.ref f), some (.int way), v8, v9] M1 := fun M1 s1 => hq bd M1 (bp_stp hb) (d.sub s1) s1.fr
  generalize S.seq (.asg 5 (.tup (.cons (.str "see") (.cons (.ix (.var 6) (.int 0)) (.cons (.blt .tuple (.cons (.bin .mul (.lst (.cons (.var 5) .nil)) (.bin .add (.ix (.var 1) (.int 0)) (.int 1))) .nil)) .nil))))) .skip = T2 at rest ⊢
  have few : ∀ {m : Nat}, (m : Int) * ((b.n : Int) + 1) < 58 → (m = sz bd ∨ (m = 400 ∧ 400 ≤ sz bd)) → sz bd * (b.n + 1) < 58 := fun {m} h1 h2 => by
    have h3 : m * (b.n + 1) < 58 := by
      have : ((m * (b.n + 1) : Nat) : Int) < 58 := by rw [Int.natCast_mul]; exact h1
      omega
    rcases h2 with rfl | ⟨rfl, _⟩
    · exact h3
    · have := Nat.mul_le_mul_left 400 (show 1 ≤ b.n + 1 by omega)
      omega
  by_cases h : way = 3 ∨ way = 4
  · have rest := rest h
    rcases h with rfl | rfl
    · (repeat decreasing_trivial_pre_omega)
      refine hN M bd (b.n + 1) _ _ _ _ _ (by omega) hb.1 fun m M1 s1 hm hmz => ?_
      have rest := fun z => rest z M1 s1
      have nil := nil M1 s1
      unfold encBk at rest nil ⊢
      (repeat decreasing_trivial_pre_omega)
      refine i_ifd (fun hlt => ?_) (fun _ => ?_)
      · have rest := rest (few hlt hmz)
        (repeat decreasing_trivial_pre_omega)
        exact rest
      · (repeat decreasing_trivial_pre_omega)
        exact nil
    · (repeat decreasing_trivial_pre_omega)
      refine hN M bd (b.n + 1) _ _ _ _ _ (by omega) hb.1 fun m M1 s1 hm hmz => ?_
      have rest := fun z => rest z M1 s1
      have nil := nil M1 s1
      unfold encBk at rest nil ⊢
      (repeat decreasing_trivial_pre_omega)
      refine i_ifd (fun hlt => ?_) (fun _ => ?_)
      · have rest := rest (few hlt hmz)
        (repeat decreasing_trivial_pre_omega)
        exact rest
      · (repeat decreasing_trivial_pre_omega)
        exact nil
  · have h3 : ¬ (way : Int) = 3 := by omega
    have h4 : ¬ (way : Int) = 4 := by omega
    (repeat decreasing_trivial_pre_omega)
    exact nil M (Sub.refl _)
end
end Pl

set_option maxHeartbeats 2000000
/-! spoilt books; books; worlds; goals -/
namespace Pl
open PySem L2
section
variable {C : CE} {nx bk ct : SU → Hm → Prop} {rt : QU} {M : Hm} {p : Addr × Addr} {b : Bk} {at_ other way j : Nat} {name : Str} {bd : Bd} {f : Addr} {FS : List Str} {v8 v9 : Option U} {T : S}
theorem sp4 {fd : Nat} (hd : DrawC C fd) (h0 : 0 < b.n) (hn : b.n < 100) (d : Dr M p) (hb : BPb b j bd) (hf : StrsB M p f FS) (hF : 0 < FS.length)
    (hq : ∀ bd' M', BPb b (j + stp (way = 5)) bd' → Dr M' p → Fr p M M' → wS C T ⟨nx, rt, bk, ct⟩ (sg p b at_ other name bd' f way v8 v9) M') :
    wS C (.seq (.ifs (.cmp .eq (.var 7) (.int 5)) (.seq (.asg 5 (.tup (.cons (.str "put") (.cons (.ix (.var 6) (.int 0)) (.cons (.call fd (.cons (.var 0) (.cons (.ix (.var 1) (.int 0)) .nil))) (.cons (.var 5) .nil)))))) .skip) .skip) T) ⟨nx, rt, bk, ct⟩ (sg p b at_ other name bd f way v8 v9) M := by
  unfold sg at hq ⊢
  obtain ⟨g1, g2, g3, g4⟩ := hf
  (repeat decreasing_trivial_pre_omega)
  refine i_ifd (fun h => ?_) (fun h => ?_)
  · unfold encBk at hq ⊢
    (repeat decreasing_trivial_pre_omega)
    refine x_lst (v := .str FS[0]) g4 (by rw [show (0 : Int) = ((0 : Nat) : Int) from rfl, atI_nat (by rw [List.length_map]; exact hF), List.getElem_map]) ?_
    (repeat decreasing_trivial_pre_omega)
    refine hd.lt M p b.n _ d h0 (by omega) fun r M1 hr d1 f1 => ?_
    (repeat decreasing_trivial_pre_omega)
    exact hq (.put FS[0] r bd) M1 (by rw [stp_pos (by omega)]; exact ⟨.put ⟨g3 _ (List.getElem_mem _), by omega, by omega⟩ hb.1, by have := hb.2; show 1 + sz bd ≤ _; omega⟩) d1 f1
  · (repeat decreasing_trivial_pre_omega)
    exact hq bd M (bp_stp hb) d (Fr.refl _ _)
theorem sp5 {fr fp : Nat} (hr : RareC C fr) (hp : PickC C fp) (h0 : 0 < b.n) (hh : ∀ h ∈ b.heads, ok1 h) (hl : b.heads.length ≤ 100) (d : Dr M p) (hb : BPb b j bd)
    (hq : ∀ bd' M', BPb b (j + stp (way = 0)) bd' → Dr M' p → Fr p M M' → wS C T ⟨nx, rt, bk, ct⟩ (sg p b at_ other name bd' f way v8 v9) M') :
    wS C (.seq (.ifs (.ands (.cons (.cmp .eq (.var 7) (.int 0)) (.cons (.ix (.var 1) (.int 1)) (.cons (.call fr (.cons (.var 0) (.cons (.int 3) .nil))) .nil)))) (.seq (.asg 5 (.tup (.cons (.str "put") (.cons (.call fp (.cons (.var 0) (.cons (.blt .list (.cons (.ix (.var 1) (.int 1)) .nil)) .nil))) (.cons (.int 0) (.cons (.var 5) .nil)))))) .skip) .skip) T) ⟨nx, rt, bk, ct⟩ (sg p b at_ other name bd f way v8 v9) M := by
  unfold sg at hq ⊢
  unfold encBk at hq ⊢
  have nil := hq bd M (bp_stp hb) d (Fr.refl _ _)
  by_cases h : (way : Int) = 0
  · by_cases hne : b.heads = []
    · have hne2 : b.heads.map U.str = [] := by rw [hne]; rfl
      (repeat decreasing_trivial_pre_omega)
      exact nil
    · have hne2 : ¬ b.heads.map U.str = [] := by simpa using hne
      (repeat decreasing_trivial_pre_omega)
      refine hr M p 3 _ d (by decide) (by decide) fun k M1 d1 f1 => ?_
      cases k with
      | false =>
        (repeat decreasing_trivial_pre_omega)
        exact hq bd M1 (bp_stp hb) d1 f1
      | true =>
        (repeat decreasing_trivial_pre_omega)
        intro a ha
        have d2 := d1.upd (o := .lst (b.heads.map U.str)) ha
        (repeat decreasing_trivial_pre_omega)
        refine hp _ p _ _ _ d2 (.inr ⟨a, rfl, d1.ne ha, um_same⟩) hne2 (by rw [List.length_map]; omega) fun x M3 hx d3 f3 => ?_
        obtain ⟨s, hs, rfl⟩ := List.mem_map.mp hx
        (repeat decreasing_trivial_pre_omega)
        exact hq (.put s 0 bd) M3 (by rw [stp_pos (by omega)]; exact ⟨.put ⟨hh s hs, by omega, by omega⟩ hb.1, by have := hb.2; show 1 + sz bd ≤ _; omega⟩) d3 ((f1.upd (f1.non (d1.ne ha) ha)).trans f3)
  · (repeat decreasing_trivial_pre_omega)
    exact nil
end
theorem spoilt_ok {C : CE} {fr fp fd fn fw fpf ffi j : Nat} (hr : RareC C fr) (hp : PickC C fp) (hd : DrawC C fd) (hN : NodesC C fn) (hw : WoC C fw j) (hpf : PutFC C fpf) (hfi : NamesLC C ffi 20) {nx bk ct : SU → Hm → Prop} {rt : QU} {M : Hm} {p : Addr × Addr} {b : Bk} (hb : BkG b j) (d : Dr M p)
    (hq : ∀ b' M', BkG b' (j + 1) → b'.n = b.n → b'.heads = b.heads → b'.names = b.names → Dr M' p → Fr p M M' → rt (encBk b') M') :
    wS C (B_law_spoilt_book fr fp fd fn fw fpf ffi) ⟨nx, rt, bk, ct⟩ (startU 10 [.ref p.1, encBk b]) M := by
  have hR0 := hb.r0
  have hR8 := hb.r8
  have hn := hb.n1
  have h0 := hb.ok.n0
  unfold B_law_spoilt_book
  unfold encBk
  (repeat decreasing_trivial_pre_omega)
  rw [List.length_map]
  refine hd.lt M p b.rows.length _ d hR0 (by omega) fun at_ M1 hat d1 f1 => ?_
  (repeat decreasing_trivial_pre_omega)
  rw [List.length_map]
  refine hd.lt M1 p b.rows.length _ d1 hR0 (by omega) fun other M2 hot d2 f2 => ?_
  (repeat decreasing_trivial_pre_omega)
  refine x_tup (row_get hat) ?_
  unfold encRow
  (repeat decreasing_trivial_pre_omega)
  refine x_tup (row_get hot) ?_
  unfold encRow
  (repeat decreasing_trivial_pre_omega)
  have hbo : BBP b j b.rows[other].2 := hb.bp _ (List.getElem_mem hot)
  refine hpf M2 b.rows[other].2 (b.n + 1) j _ _ _ _ (by omega) (fun _ _ h => h.1) hbo fun r l M3 hrN s3 hr3 hl hlk => ?_
  have d3 := d2.sub s3
  (repeat decreasing_trivial_pre_omega)
  refine hfi _ _ fun r4 FL M4 s4 hr4N hr4 hl4 _ hk4 => ?_
  have d4 := d3.sub s4
  have hr4n : r4 ≠ p.1 := d3.ne hr4N
  (repeat decreasing_trivial_pre_omega)
  refine hp M4 p _ _ _ d4 (.inr ⟨r4, rfl, hr4n, hr4⟩) (by intro z; rw [List.map_eq_nil_iff] at z; rw [z] at hl4; cases hl4) (by rw [List.length_map]; omega) fun x M5 hx d5 f5 => ?_
  obtain ⟨s, hs, rfl⟩ := List.mem_map.mp hx
  have rn : r ≠ p.1 := d2.ne hrN
  have hr5 := f5.at_ rn (s4 _ _ hr3)
  (repeat decreasing_trivial_pre_omega)
  intro t ht
  have d6 := d5.upd (o := .lst [.str s]) ht
  (repeat decreasing_trivial_pre_omega)
  refine o_addL (um_old hr5 ht) um_same (by rw [List.length_map]; simp; unfold LIM; omega) fun f hf => ?_
  have e1 : l.map U.str ++ [.str s] = (l ++ [s]).map U.str := by simp
  rw [e1]
  have d7 := d6.upd (o := .lst ((l ++ [s]).map U.str)) hf
  have F7 : Fr p M (um (um M5 t (.lst [.str s])) f (.lst ((l ++ [s]).map U.str))) := (f1.trans (f2.trans (s3.fr.trans (s4.fr.trans f5)))).trans (sub_um (sub_um (Sub.refl _) ht) (um_none hf)).fr
  have fn1 : f ≠ p.1 := d6.ne hf
  have hfs : StrsB (um (um M5 t (.lst [.str s])) f (.lst ((l ++ [s]).map U.str))) p f (l ++ [s]) := ⟨fn1, by simp; omega, fun x hx => by
    rcases List.mem_append.mp hx with hx | hx
    · exact hlk x hx
    · rw [List.mem_singleton] at hx; subst hx; exact hk4 _ hs, um_same⟩
  have hFS : 0 < (l ++ [s]).length := by simp
  generalize um (um M5 t (.lst [.str s])) f (.lst ((l ++ [s]).map U.str)) = M7 at d7 F7 hfs ⊢
  generalize l ++ [s] = FS at hfs hFS
  -- the rows of the new book
  have tail : ∀ (way : Nat) (bd : Bd) (M' : Hm), BPb b (j + 1) bd → Dr M' p → Fr p M M' → wS C (.seq (.asg 8 (.comp [("k", 9)] (.one 9) (.iRange (.blt .len (.cons (.ix (.var 1) (.int 2)) .nil))) .nil (.ite (.cmp .eq (.var 9) (.var 2)) (.tup (.cons (.var 4) (.cons (.var 5) .nil))) (.ix (.ix (.var 1) (.int 2)) (.var 9))))) (.seq (.ret (.tup (.cons (.ix (.var 1) (.int 0)) (.cons (.ix (.var 1) (.int 1)) (.cons (.blt .tuple (.cons (.var 8) .nil)) .nil))))) .skip)) ⟨nx, rt, bk, ct⟩ (sg p b at_ other b.rows[at_].1 bd f way none none) M' := fun way bd M' hbd d' f' => by
    unfold sg encBk
    (repeat decreasing_trivial_pre_omega)
    refine ⟨by rw [List.length_map]; unfold LIM; omega, by rw [List.length_map]; unfold LIM; omega, ?_⟩
    rw [List.length_map, rngU_nat]
    refine compL_by (enc := fun i : Nat => U.int (i : Nat)) (fun don rest acc M2 => M2 = M' ∧ acc = don.map fun i => encRow (if i = at_ then (b.rows[at_].1, bd) else b.rows.getD i ("", .done))) (List.range b.rows.length) ⟨rfl, rfl⟩ ?_ ?_
    · intro don i rest acc M2 k e ⟨e1, e2⟩ hk
      subst e1 e2
      have hi : i < b.rows.length := List.mem_range.mp (by rw [← e]; simp)
      have hlen : don.length + rest.length + 1 = b.rows.length := by rw [← List.length_range (n := b.rows.length), ← e]; simp; omega
      (repeat decreasing_trivial_pre_omega)
      refine i_ifd (fun h => ?_) (fun h => ?_)
      · have h : i = at_ := by omega
        subst h
        (repeat decreasing_trivial_pre_omega)
        refine hk _ _ trivial (fun _ => by rw [List.length_map]; unfold LIM; omega) ⟨rfl, ?_⟩
        rw [List.map_append, List.map_singleton, if_pos rfl]
        rfl
      · have h : ¬ i = at_ := by omega
        (repeat decreasing_trivial_pre_omega)
        refine x_tup (row_get hi) ?_
        refine hk _ _ trivial (fun _ => by rw [List.length_map]; unfold LIM; omega) ⟨rfl, ?_⟩
        rw [List.map_append, List.map_singleton, if_neg h, List.getD_eq_getElem?_getD, List.getElem?_eq_getElem hi]
        rfl
    · intro acc M2 ⟨e1, e2⟩
      subst e1 e2
      intro y hy
      (repeat decreasing_trivial_pre_omega)
      have e3 : ((List.range b.rows.length).map fun i => encRow (if i = at_ then (b.rows[at_].1, bd) else b.rows.getD i ("", .done))) = ((List.range b.rows.length).map fun i => (if i = at_ then (b.rows[at_].1, bd) else b.rows.getD i (("" : Str), Bd.done))).map encRow := by rw [List.map_map]; rfl
      have hnames : ((List.range b.rows.length).map fun i => (if i = at_ then (b.rows[at_].1, bd) else b.rows.getD i (("" : Str), Bd.done))).map (·.1) = b.names := by
        refine List.ext_getElem (by simp [Bk.names]) fun i h1 h2 => ?_
        simp only [List.getElem_map, List.getElem_range, Bk.names]
        have hi : i < b.rows.length := by simpa [Bk.names] using h2
        by_cases h : i = at_
        · rw [if_pos h]; subst h; rfl
        · rw [if_neg h, List.getD_eq_getElem?_getD, List.getElem?_eq_getElem hi]; rfl
      have hrows : ∀ r ∈ ((List.range b.rows.length).map fun i => (if i = at_ then (b.rows[at_].1, bd) else b.rows.getD i (("" : Str), Bd.done))), ok1 r.1 ∧ BPb b (j + 1) r.2 := fun r hr => by
        obtain ⟨i, hi, rfl⟩ := List.mem_map.mp hr
        have hi := List.mem_range.mp hi
        by_cases h : i = at_
        · rw [if_pos h]; exact ⟨(hb.ok.rows _ (List.getElem_mem hat)).1, hbd⟩
        · rw [if_neg h, List.getD_eq_getElem?_getD, List.getElem?_eq_getElem hi]
          exact ⟨(hb.ok.rows _ (List.getElem_mem hi)).1, ⟨BP.up (hb.bp _ (List.getElem_mem hi)), Nat.le_succ_of_le (hb.sz _ (List.getElem_mem hi))⟩⟩
      have hL : ((List.range b.rows.length).map fun i => (if i = at_ then (b.rows[at_].1, bd) else b.rows.getD i (("" : Str), Bd.done))).length = b.rows.length := by simp
      have hbk := BkG.mk' (n := b.n) (heads := b.heads) (rows := (List.range b.rows.length).map fun i => (if i = at_ then (b.rows[at_].1, bd) else b.rows.getD i (("" : Str), Bd.done))) (j := j + 1) h0 hn hb.ok.heads hb.ok.hl (by omega) (by omega) (by rw [hnames]; exact hb.nd) hb.hd (fun r hr => (hrows r hr).2.2) fun r hr => ⟨(hrows r hr).1, by rw [hnames]; exact (hrows r hr).2.1⟩
      rw [e3]
      exact hq _ _ hbk rfl rfl hnames (d'.upd hy) (f'.upd (f'.non (d'.ne hy) hy))
  generalize S.seq (.asg 8 (.comp [("k", 9)] (.one 9) (.iRange (.blt .len (.cons (.ix (.var 1) (.int 2)) .nil))) .nil (.ite (.cmp .eq (.var 9) (.var 2)) (.tup (.cons (.var 4) (.cons (.var 5) .nil))) (.ix (.ix (.var 1) (.int 2)) (.var 9))))) (.seq (.ret (.tup (.cons (.ix (.var 1) (.int 0)) (.cons (.ix (.var 1) (.int 1)) (.cons (.blt .tuple (.cons (.var 8) .nil)) .nil))))) .skip) = T at tail ⊢
  refine z_seq (z_asg ?_)
  (repeat decreasing_trivial_pre_omega)
  refine hd.lt M7 p 6 _ d7 (by decide) (by decide) fun way M8 hway d8 f8 => ?_
  change wS C _ _ (sg p b at_ other b.rows[at_].1 b.rows[at_].2 f way none none) M8
  have hba : BPb b j b.rows[at_].2 := ⟨hb.bp _ (List.getElem_mem hat), hb.sz _ (List.getElem_mem hat)⟩
  have hfs8 := hfs.fr f8
  have F8 := F7.trans f8
  refine sp1 (b := b) (at_ := at_) (other := other) (name := b.rows[at_].1) (f := f) (v8 := none) (v9 := none) hw hn d8 hba fun b1 M9 hb1 d9 f9 => ?_
  refine sp2 hot d9 hb1 fun b2 M10 hb2 d10 f10 => ?_
  have hfs10 := (hfs8.fr f9).fr f10
  refine sp3 hN hn d10 hb2 hfs10 hFS fun b3 M11 hb3 d11 f11 => ?_
  refine sp4 hd h0 hn d11 hb3 (hfs10.fr f11) hFS fun b4 M12 hb4 d12 f12 => ?_
  refine sp5 hr hp h0 hb.ok.heads hb.ok.hl d12 hb4 fun b5 M13 hb5 d13 f13 => ?_
  have hst : stp (way = 2) + stp (way = 3 ∨ way = 4) + stp (way = 5) + stp (way = 0) ≤ 1 := by
    unfold stp
    split <;> split <;> split <;> split <;> omega
  exact tail way b5 M13 ⟨BP.le (by omega) hb5.1, Nat.le_trans hb5.2 (by omega)⟩ d13 ((((F8.trans f9).trans f10).trans f11).trans (f12.trans f13))
def SpoilC (C : CE) (f j : Nat) : Prop := ∀ (M : Hm) (p : Addr × Addr) (b : Bk) (Q : QU), BkG b j → Dr M p → (∀ b' M', BkG b' (j + 1) → b'.n = b.n → b'.heads = b.heads → b'.names = b.names → Dr M' p → Fr p M M' → Q (encBk b') M') → C f [.ref p.1, encBk b] M Q
end Pl

set_option maxHeartbeats 2000000
/-! books; worlds; goals -/
namespace Pl
open PySem L2
theorem BkG.le {b : Bk} {j i : Nat} (h : j ≤ i) (hb : BkG b j) : BkG b i := ⟨hb.ok, hb.n1, hb.r0, hb.r8, (fun r hr => (hb.bp r hr).le h), hb.nd, fun r hr => Nat.le_trans (hb.sz r hr) (by omega), hb.hd⟩
def TidyC (C : CE) (f : Nat) : Prop := ∀ (M : Hm) (p : Addr × Addr) (n s R : Nat) (nodes : Int) (Q : QU), (nodes = 10 ∨ nodes = 12) → n ≤ 4 → 0 < n → n < 100 → 0 < R → R ≤ 8 → Dr M p →
  (∀ b M', BkG b 9 → b.n = n → b.heads.length ≤ s → b.rows.length = R → Dr M' p → Fr p M M' → Q (encBk b) M') → C f [.ref p.1, .int n, .int s, .int R, .int nodes] M Q
theorem book_ok {C : CE} {fs ft fw fd : Nat} (hs : SpoilC C fs 9) (ht : TidyC C ft) (hw : TidyC C fw) (hd : DrawC C fd) {nx bk ct : SU → Hm → Prop} {rt : QU} {M : Hm} {p : Addr × Addr} {K S R : Nat} {nodes : Int} (hnd : (nodes = 10 ∨ nodes = 12)) (hK4 : K ≤ 4) (k0 : 0 < K) (k1 : K < 99) (hS : S < 100) (hR0 : 0 < R) (hR8 : R ≤ 8) (d : Dr M p)
    (hq : ∀ b M', BkG b 13 → b.n ≤ K → b.heads.length ≤ S → b.rows.length ≤ R → Dr M' p → Fr p M M' → rt (encBk b) M') :
    wS C (B_law_book fs ft fw fd) ⟨nx, rt, bk, ct⟩ (startU 10 [.ref p.1, .int K, .int S, .int R, .int nodes]) M := by
  unfold B_law_book
  (repeat decreasing_trivial_pre_omega)
  refine hd.lt M p 5 _ d (by decide) (by decide) fun way M1 hway d1 f1 => ?_
  (repeat decreasing_trivial_pre_omega)
  refine hd.lt M1 p K _ d1 (by omega) (by omega) fun many M2 hmany d2 f2 => ?_
  (repeat decreasing_trivial_pre_omega)
  rw [show (S : Int) + 1 = ((S + 1 : Nat) : Int) by omega]
  refine hd.lt M2 p (S + 1) _ d2 (by omega) (by omega) fun s1 M3 hs1 d3 f3 => ?_
  (repeat decreasing_trivial_pre_omega)
  rw [show (S : Int) + 1 = ((S + 1 : Nat) : Int) by omega]
  refine hd.lt M3 p (S + 1) _ d3 (by omega) (by omega) fun s2 M4 hs2 d4 f4 => ?_
  (repeat decreasing_trivial_pre_omega)
  refine hd.lt M4 p R _ d4 (by omega) (by omega) fun r1 M5 hr1 d5 f5 => ?_
  (repeat decreasing_trivial_pre_omega)
  refine hd.lt M5 p R _ d5 (by omega) (by omega) fun r2 M6 hr2 d6 f6 => ?_
  have F6 : Fr p M M6 := ((((f1.trans f2).trans f3).trans f4).trans f5).trans f6
  obtain ⟨n, en, n0, n1⟩ : ∃ n : Nat, (1 : Int) + (many : Nat) = (n : Nat) ∧ 0 < n ∧ n ≤ K := ⟨1 + many, by omega, by omega, by omega⟩
  obtain ⟨sn, es, es1⟩ : ∃ sn : Nat, (if (s2 : Int) > (s1 : Int) then (s2 : Int) else (s1 : Int)) = (sn : Nat) ∧ sn ≤ S := ⟨if s2 > s1 then s2 else s1, by split <;> split <;> omega, by split <;> omega⟩
  obtain ⟨rn, er, er0, er1⟩ : ∃ rn : Nat, (1 : Int) + (if (r2 : Int) > (r1 : Int) then (r2 : Int) else (r1 : Int)) = (rn : Nat) ∧ 0 < rn ∧ rn ≤ R := ⟨1 + if r2 > r1 then r2 else r1, by split <;> split <;> omega, by omega, by split <;> omega⟩
  (repeat decreasing_trivial_pre_omega)
  rw [en, es, er]
  (repeat decreasing_trivial_pre_omega)
  refine i_ifd (fun h => ?_) (fun h => ?_)
  · (repeat decreasing_trivial_pre_omega)
    refine hw M6 p n sn rn nodes _ hnd (by omega) n0 (by omega) er0 (by omega) d6 fun b M7 hb g1 g2 g3 d7 f7 => ?_
    exact hq b M7 (hb.le (by omega)) (by omega) (by omega) (by omega) d7 (F6.trans f7)
  · (repeat decreasing_trivial_pre_omega)
    refine ht M6 p n sn rn nodes _ hnd (by omega) n0 (by omega) er0 (by omega) d6 fun b M7 hb g1 g2 g3 d7 f7 => ?_
    (repeat decreasing_trivial_pre_omega)
    have spo : C fs [.ref p.1, encBk b] M7 rt := hs M7 p b _ hb d7 fun b' M8 hb' g4 g5 g6 d8 f8 => hq b' M8 (hb'.le (by omega)) (by omega) (by rw [g5]; omega) (by have := congrArg List.length g6; unfold Bk.names at this; rw [List.length_map, List.length_map] at this; omega) d8 ((F6.trans f7).trans f8)
    by_cases h2 : way = 1 ∨ way = 2
    · rcases h2 with rfl | rfl
      · (repeat decreasing_trivial_pre_omega)
        exact spo
      · (repeat decreasing_trivial_pre_omega)
        exact spo
    · have h3 : ¬ (way : Int) = 1 := by omega
      have h4 : ¬ (way : Int) = 2 := by omega
      (repeat decreasing_trivial_pre_omega)
      exact hq b M7 (hb.le (by omega)) (by omega) (by omega) (by omega) d7 (F6.trans f7)
def BookC (C : CE) (f : Nat) : Prop := ∀ (M : Hm) (p : Addr × Addr) (K S R : Nat) (nodes : Int) (Q : QU), (nodes = 10 ∨ nodes = 12) → K ≤ 4 → 0 < K → K < 99 → S < 100 → 0 < R → R ≤ 8 → Dr M p →
  (∀ b M', BkG b 13 → b.n ≤ K → b.heads.length ≤ S → b.rows.length ≤ R → Dr M' p → Fr p M M' → Q (encBk b) M') → C f [.ref p.1, .int K, .int S, .int R, .int nodes] M Q
/-! the numbers of a book -/
end Pl

set_option maxHeartbeats 400000
/-! typed rows of entries; equal things; order -/
namespace Pl
open PySem L2
section
variable {α β : Type} [DecidableEq α]
/-! as rows of entries -/
variable {f : α → U} {g : β → U}
end
/-! ### order -/
/-- two texts -/
def encP (p : Str × Str) : U := .tup [.str p.1, .str p.2]
/-! ### what follows, unseen -/
theorem z_cutR {C : CE} {σ : SU} {M : Hm} {nx bk ct : SU → Hm → Prop} {rt : QU} {x : S} (h : ∀ R : SU → Hm → Prop, R = nx → wS C x ⟨R, rt, bk, ct⟩ σ M) : wS C x ⟨nx, rt, bk, ct⟩ σ M := h nx rfl
/-! ### loops over numbers -/
theorem forL_nat {step : U → (SU → Hm → Prop) → SU → Hm → Prop} {g : Hm → Prop} {fin : SU → Hm → Prop} (I : Nat → SU → Hm → Prop) (n : Nat) {σ : SU} {M : Hm} (h0 : I 0 σ M)
    (h1 : ∀ i σ M (k : SU → Hm → Prop), i < n → I i σ M → (∀ σ' M', g M' → I (i + 1) σ' M' → k σ' M') → step (.int (i : Nat)) k σ M)
    (h2 : ∀ σ M, I n σ M → fin σ M) : forL step g fin (rngU 0 (n : Int)) σ M := by
  rw [rngU_nat]
  suffices h : ∀ (m i : Nat) σ M, i + m = n → I i σ M → forL step g fin ((List.range' i m).map fun i => U.int (i : Nat)) σ M by
    rw [List.range_eq_range']
    exact h n 0 σ M (Nat.zero_add n) h0
  intro m
  induction m with
  | zero =>
    intro i σ M e h
    rw [Nat.add_zero] at e
    subst e
    exact h2 σ M h
  | succ m ih =>
    intro i σ M e h
    rw [List.range'_succ, List.map_cons]
    exact h1 i σ M _ (by omega) h fun σ' M' hg hi => ⟨hg, ih (i + 1) σ' M' (by omega) hi⟩
/-! ### the same through and through -/
end Pl

set_option maxHeartbeats 2000000
/-! k01: names, numbers, rows of names, for any thing -/
namespace Pl.K1
open PySem L2
def B_is_int : S := (.seq (.ret (.ands (.cons (.isinst (.var 0) "int") (.cons (.not (.isinst (.var 0) "bool")) .nil)))) .skip)
def B_is_name : S := (.seq (.ifs (.ors (.cons (.not (.isinst (.var 0) "str")) (.cons (.not (.chain .le .le (.int 1) (.blt .len (.cons (.var 0) .nil)) (.int 8))) (.cons (.cmp .isin (.var 0) (.gdat "RESERVED" (.dtp [(.str "kinds"), (.str "sources"), (.str "rule"), (.str "form"), (.str "see"), (.str "ask"), (.str "put"), (.str "follow"), (.str "done"), (.str "gone"), (.str "else"), (.str "end")]))) .nil)))) (.seq (.ret (.bl false)) .skip) .skip) (.seq (.ret (.blt .all (.cons (.comp [("letter", 1)] (.one 1) (.iStr (.var 0)) .nil (.cmp .isin (.var 1) (.gstr "LETTERS" "abcdefghijklmnopqrstuvwxyz"))) .nil))) .skip))
def B_is_put_content (is_int : Nat) : S := (.seq (.ret (.ands (.cons (.call is_int (.cons (.var 1) .nil)) (.cons (.chain .le .lt (.int 0) (.var 1) (.var 0)) .nil)))) .skip)
def B_are_names (is_name : Nat) : S := (.seq (.ifs (.ors (.cons (.not (.isinst (.var 0) "tuple")) (.cons (.not (.chain .le .le (.var 1) (.blt .len (.cons (.var 0) .nil)) (.var 2))) .nil))) (.seq (.ret (.bl false)) .skip) .skip) (.seq (.ifs (.not (.blt .all (.cons (.comp [("name", 3)] (.one 3) (.iSeq (.var 0)) .nil (.call is_name (.cons (.var 3) .nil))) .nil))) (.seq (.ret (.bl false)) .skip) .skip) (.seq (.ret (.cmp .eq (.blt .len (.cons (.sset (.var 0)) .nil)) (.blt .len (.cons (.var 0) .nil)))) .skip)))
/-- plain things, so many levels deep -/
def pl : Nat → U → Bool
  | _, .non => true
  | _, .int _ => true
  | _, .str s => okS s && decide (s.length ≤ 1000)
  | n + 1, .tup l => decide (l.length ≤ 1000) && l.all (pl n)
  | _, _ => false
theorem pl_up : ∀ {n : Nat} {u : U}, pl n u = true → pl (n + 1) u = true
  | _, .non, _ => rfl
  | _, .int _, _ => rfl
  | 0, .str s, h => h
  | n + 1, .str s, h => h
  | 0, .tup l, h => by cases h
  | n + 1, .tup l, h => by
    have h2 : l.length ≤ 1000 ∧ ∀ x ∈ l, pl n x = true := by simpa [pl] using h
    show (decide (l.length ≤ 1000) && l.all (pl (n + 1))) = true
    rw [Bool.and_eq_true, List.all_eq_true]
    exact ⟨decide_eq_true h2.1, fun x hx => pl_up (h2.2 x hx)⟩
  | n, .bl _, h => by cases n <;> cases h
  | n, .ref _, h => by cases n <;> cases h
  | n, .rol _, h => by cases n <;> cases h
  | n, .dtp _, h => by cases n <;> cases h
theorem pl_le {n m : Nat} {u : U} (h : pl n u = true) (hm : n ≤ m) : pl m u = true := by
  induction hm with
  | refl => exact h
  | step _ ih => exact pl_up ih
theorem pl_ok : ∀ {n : Nat} {u : U}, pl n u = true → U.ok n u = true
  | _, .non, _ => by unfold U.ok; rfl
  | _, .int _, _ => by unfold U.ok; rfl
  | 0, .str s, h => by
    have : okS s = true ∧ s.length ≤ 1000 := by simpa [pl] using h
    unfold U.ok
    exact this.1
  | n + 1, .str s, h => by
    have : okS s = true ∧ s.length ≤ 1000 := by simpa [pl] using h
    unfold U.ok
    exact this.1
  | 0, .tup l, h => by cases h
  | n + 1, .tup l, h => by
    have h2 : l.length ≤ 1000 ∧ ∀ x ∈ l, pl n x = true := by simpa [pl] using h
    unfold U.ok
    exact List.all_eq_true.mpr fun x hx => pl_ok (h2.2 x hx)
  | n, .bl _, h => by cases n <;> cases h
  | n, .ref _, h => by cases n <;> cases h
  | n, .rol _, h => by cases n <;> cases h
  | n, .dtp _, h => by cases n <;> cases h
theorem pl_okU {n : Nat} {u : U} (h : pl n u = true) (hn : n ≤ 59) : okU u = true := by
  unfold okU
  exact pl_ok (pl_le h (by omega))
theorem pl_tup {n : Nat} {l : List U} (h : pl n (.tup l) = true) : l.length ≤ 1000 ∧ ∃ m, n = m + 1 ∧ ∀ x ∈ l, pl m x = true := by
  cases n with
  | zero => cases h
  | succ m =>
    have h2 : l.length ≤ 1000 ∧ ∀ x ∈ l, pl m x = true := by simpa [pl] using h
    exact ⟨h2.1, m, rfl, h2.2⟩
theorem pl_str {n : Nat} {s : Str} (h : pl n (.str s) = true) : okS s = true ∧ s.length ≤ 1000 := by
  cases n <;> simpa [pl] using h
def intU : U → Bool
  | .int _ => true
  | _ => false
def nameU : U → Bool
  | .str s => nameS s
  | _ => false
def putU (n : Nat) : U → Bool
  | .int i => decide (0 ≤ i) && decide (i < n)
  | _ => false
def namesU (lo hi : Nat) : U → Bool
  | .tup l => (decide (lo ≤ l.length) && decide (l.length ≤ hi)) && (l.all nameU && decide l.Nodup)
  | _ => false
theorem compL_id {step : U → (Option U → Hm → Prop) → Hm → Prop} {g : Hm → Prop} {fin : List U → Hm → Prop} (I : List U → List U → List U → Hm → Prop) (l : List U) {acc : List U} {M : Hm} (h0 : I [] l acc M)
    (h1 : ∀ don x rest acc M (k : Option U → Hm → Prop), don ++ x :: rest = l → I don (x :: rest) acc M → (∀ o M', g M' → (o.isSome = true → acc.length < LIM) → I (don ++ [x]) rest (acc ++ o.toList) M' → k o M') → step x k M)
    (h2 : ∀ acc M, I l [] acc M → fin acc M) : compL step g fin l acc M := by
  have := compL_by (enc := fun x => x) I l h0 h1 h2
  rwa [List.map_id'] at this
theorem forL_id {step : U → (SU → Hm → Prop) → SU → Hm → Prop} {g : Hm → Prop} {fin : SU → Hm → Prop} (I : List U → List U → SU → Hm → Prop) (l : List U) {σ : SU} {M : Hm} (h0 : I [] l σ M)
    (h1 : ∀ don x rest σ M (k : SU → Hm → Prop), don ++ x :: rest = l → I don (x :: rest) σ M → (∀ σ' M', g M' → I (don ++ [x]) rest σ' M' → k σ' M') → step x k σ M)
    (h2 : ∀ σ M, I l [] σ M → fin σ M) : forL step g fin l σ M := by
  have := forL_by (enc := fun x => x) I l h0 h1 h2
  rwa [List.map_id'] at this
theorem nd_str {xs : List Str} : (xs.map U.str).Nodup ↔ xs.Nodup := by
  unfold List.Nodup
  rw [List.pairwise_map]
  exact ⟨fun h => h.imp fun a b => a (congrArg U.str b), fun h => h.imp fun a b => a (by injection b)⟩
theorem same_len {xs ks : List Str} (nd : ks.Nodup) (m : ∀ y, y ∈ ks ↔ y ∈ xs) : ks.length = xs.length ↔ xs.Nodup := by
  constructor
  · intro e
    exact (perm_of_len nd (fun y hy => (m y).mp hy) (Nat.le_of_eq e.symm)).nodup_iff.mpr nd
  · intro h
    exact Nat.le_antisymm (nd_in nd fun y hy => (m y).mp hy) (nd_in h fun y hy => (m y).mpr hy)
theorem names_strs {n : Nat} : ∀ {l : List U}, (∀ x ∈ l, pl n x = true) → l.all nameU = true → ∃ xs : List Str, l = xs.map U.str ∧ ∀ y ∈ xs, okS y = true
  | [], _, _ => ⟨[], rfl, fun _ z => nomatch z⟩
  | x :: l, hp, h => by
    rw [List.all_cons, Bool.and_eq_true] at h
    obtain ⟨xs, e, ho⟩ := names_strs (fun y hy => hp y (List.mem_cons_of_mem _ hy)) h.2
    cases x with
    | str s =>
      refine ⟨s :: xs, by rw [e]; rfl, fun y hy => ?_⟩
      rcases List.mem_cons.mp hy with rfl | hy
      · exact (pl_str (hp _ List.mem_cons_self)).1
      · exact ho y hy
    | _ => cases h.1
section
variable {C : CE} {nx bk ct : SU → Hm → Prop} {rt : QU} {M : Hm}
theorem is_int_p {n : Nat} {u : U} (h : pl n u = true) (hq : rt (.bl (intU u)) M) : wS C B_is_int ⟨nx, rt, bk, ct⟩ (startU 1 [u]) M := by
  unfold B_is_int
  cases u with
  | bl _ => cases n <;> cases h
  | ref _ => cases n <;> cases h
  | rol _ => cases n <;> cases h
  | dtp _ => cases n <;> cases h
  | _ => (repeat decreasing_trivial_pre_omega); exact hq
def IntP (C : CE) (f : Nat) : Prop := ∀ (M : Hm) (n : Nat) (u : U) (Q : QU), pl n u = true → Q (.bl (intU u)) M → C f [u] M Q
theorem is_put_p {fi : Nat} (hI : IntP C fi) {k n : Nat} {u : U} (h : pl n u = true) (hq : rt (.bl (putU k u)) M) : wS C (B_is_put_content fi) ⟨nx, rt, bk, ct⟩ (startU 2 [.int k, u]) M := by
  unfold B_is_put_content
  (repeat decreasing_trivial_pre_omega)
  refine hI M n u _ h ?_
  cases u with
  | bl _ => cases n <;> cases h
  | ref _ => cases n <;> cases h
  | rol _ => cases n <;> cases h
  | dtp _ => cases n <;> cases h
  | int i =>
    simp only [intU]
    have hq : rt (.bl (decide (0 ≤ i) && decide (i < k))) M := hq
    by_cases h1 : 0 ≤ i
    · rw [decide_eq_true h1, Bool.true_and] at hq
      (repeat decreasing_trivial_pre_omega)
      exact hq
    · rw [decide_eq_false h1, Bool.false_and] at hq
      (repeat decreasing_trivial_pre_omega)
      exact hq
  | _ =>
    simp only [intU]
    (repeat decreasing_trivial_pre_omega)
    exact hq
def PutP (C : CE) (f : Nat) : Prop := ∀ (M : Hm) (k n : Nat) (u : U) (Q : QU), pl n u = true → Q (.bl (putU k u)) M → C f [.int k, u] M Q
theorem all_bl {α : Type} {f : α → Bool} {l : List α} : (l.map f).all id = l.all f := by
  induction l with
  | nil => rfl
  | cons x l ih => rw [List.map_cons, List.all_cons, List.all_cons, ih]; rfl
theorem is_name_p {n : Nat} {u : U} (h : pl n u = true) (hq : ∀ M', Sub M M' → rt (.bl (nameU u)) M') : wS C B_is_name ⟨nx, rt, bk, ct⟩ (startU 2 [u]) M := by
  have hlim : LIM = 100000 := rfl
  unfold B_is_name
  cases u with
  | bl _ => cases n <;> cases h
  | ref _ => cases n <;> cases h
  | rol _ => cases n <;> cases h
  | dtp _ => cases n <;> cases h
  | str s =>
    obtain ⟨h1, h2⟩ := pl_str h
    have hq : ∀ M', Sub M M' → rt (.bl ((decide (1 ≤ s.length) && decide (s.length ≤ 8)) && (!decide (s ∈ resL) && s.cps.toList.all fun c => decide (c ∈ letters.cps.toList)))) M' := hq
    (repeat decreasing_trivial_pre_omega)
    refine ⟨by omega, ?_⟩
    by_cases a1 : 1 ≤ s.length
    · have b1 : (1 : Int) ≤ (s.length : Nat) := by omega
      by_cases a2 : s.length ≤ 8
      · have b2 : ((s.length : Nat) : Int) ≤ 8 := by omega
        rw [decide_eq_true a1, decide_eq_true a2] at hq
        (repeat decreasing_trivial_pre_omega)
        refine in_dtp (by decide +kernel) rfl ?_
        rw [show decide (U.str s ∈ [U.str "kinds", U.str "sources", U.str "rule", U.str "form", U.str "see", U.str "ask", U.str "put", U.str "follow", U.str "done", U.str "gone", U.str "else", U.str "end"]) = decide (s ∈ resL) from decide_eq_decide.mpr (mem_strs (f := s) (l := resL))]
        by_cases a3 : s ∈ resL
        · rw [decide_eq_true a3] at hq ⊢
          (repeat decreasing_trivial_pre_omega)
          exact hq _ (Sub.refl _)
        · rw [decide_eq_false a3] at hq ⊢
          (repeat decreasing_trivial_pre_omega)
          have hcl : s.cps.toList.length ≤ 1000 := by rw [Array.length_toList]; exact h2
          refine ⟨_, rfl, ?_⟩
          refine compL_by (enc := fun c => U.str ⟨#[c]⟩) (fun don rest acc M' => M' = M ∧ acc = (don.map fun c => decide (c ∈ letters.cps.toList)).map U.bl) s.cps.toList ⟨rfl, rfl⟩ ?_ ?_
          · intro don x rest acc M1 k e ⟨e1, e2⟩ hk
            subst e1 e2
            have hdl : don.length ≤ 1000 := by
              have : don.length ≤ s.cps.toList.length := by rw [← e]; simp
              omega
            (repeat decreasing_trivial_pre_omega)
            refine in_str ?_
            exact hk _ _ trivial (fun _ => by rw [List.length_map, List.length_map]; omega) ⟨rfl, by simp [letters]⟩
          intro acc M1 ⟨e1, e2⟩
          subst e1 e2
          intro a ha
          have a1 : (um M1 a (.lst ((s.cps.toList.map fun c => decide (c ∈ letters.cps.toList)).map U.bl))) a = some (.lst ((s.cps.toList.map fun c => decide (c ∈ letters.cps.toList)).map U.bl)) := um_same
          have s1 : Sub M1 (um M1 a (.lst ((s.cps.toList.map fun c => decide (c ∈ letters.cps.toList)).map U.bl))) := sub_um (Sub.refl _) ha
          generalize um M1 a (.lst ((s.cps.toList.map fun c => decide (c ∈ letters.cps.toList)).map U.bl)) = M2 at *
          (repeat decreasing_trivial_pre_omega)
          rw [all_bl]
          exact hq _ s1
      · have b2 : ¬ ((s.length : Nat) : Int) ≤ 8 := by omega
        rw [decide_eq_false a2, Bool.and_false] at hq
        (repeat decreasing_trivial_pre_omega)
        exact hq _ (Sub.refl _)
    · have b1 : ¬ (1 : Int) ≤ (s.length : Nat) := by omega
      rw [decide_eq_false a1] at hq
      (repeat decreasing_trivial_pre_omega)
      exact hq _ (Sub.refl _)
  | _ => (repeat decreasing_trivial_pre_omega); exact hq _ (Sub.refl _)
def NameP (C : CE) (f : Nat) : Prop := ∀ (M : Hm) (n : Nat) (u : U) (Q : QU), pl n u = true → (∀ M', Sub M M' → Q (.bl (nameU u)) M') → C f [u] M Q
theorem are_names_p {fn : Nat} (hN : NameP C fn) {n lo hi : Nat} {u : U} (h : pl n u = true) (hq : ∀ M', Sub M M' → rt (.bl (namesU lo hi u)) M') : wS C (B_are_names fn) ⟨nx, rt, bk, ct⟩ (startU 4 [u, .int lo, .int hi]) M := by
  have hlim : LIM = 100000 := rfl
  unfold B_are_names
  cases u with
  | bl _ => cases n <;> cases h
  | ref _ => cases n <;> cases h
  | rol _ => cases n <;> cases h
  | dtp _ => cases n <;> cases h
  | tup l =>
    obtain ⟨hl, m, rfl, hp⟩ := pl_tup h
    have hq : ∀ M', Sub M M' → rt (.bl ((decide (lo ≤ l.length) && decide (l.length ≤ hi)) && (l.all nameU && decide l.Nodup))) M' := hq
    (repeat decreasing_trivial_pre_omega)
    by_cases a1 : lo ≤ l.length
    · have b1 : (lo : Int) ≤ (l.length : Nat) := by omega
      by_cases a2 : l.length ≤ hi
      · have b2 : ((l.length : Nat) : Int) ≤ (hi : Nat) := by omega
        rw [decide_eq_true a1, decide_eq_true a2] at hq
        (repeat decreasing_trivial_pre_omega)
        refine compL_id (fun don rest acc M' => Sub M M' ∧ acc = (don.map nameU).map U.bl) l ⟨Sub.refl _, rfl⟩ ?_ ?_
        · intro don x rest acc M1 k e ⟨s1, e2⟩ hk
          subst e2
          have hdl : don.length ≤ 1000 := by
            have : don.length ≤ l.length := by rw [← e]; simp
            omega
          (repeat decreasing_trivial_pre_omega)
          refine hN M1 m x _ (hp x (by rw [← e]; simp)) fun M2 s2 => ?_
          exact hk _ _ trivial (fun _ => by rw [List.length_map, List.length_map]; omega) ⟨s1.trans s2, by simp⟩
        intro acc M1 ⟨s1, e2⟩
        subst e2
        intro a ha
        have a1 : (um M1 a (.lst ((l.map nameU).map U.bl))) a = some (.lst ((l.map nameU).map U.bl)) := um_same
        have s2 : Sub M (um M1 a (.lst ((l.map nameU).map U.bl))) := sub_new s1 ha
        generalize um M1 a (.lst ((l.map nameU).map U.bl)) = M2 at *
        (repeat decreasing_trivial_pre_omega)
        rw [all_bl]
        cases hall : l.all nameU with
        | false =>
          rw [hall] at hq
          (repeat decreasing_trivial_pre_omega)
          exact hq _ s2
        | true =>
          rw [hall] at hq
          obtain ⟨xs, rfl, ho⟩ := names_strs hp hall
          rw [List.length_map] at hl
          (repeat decreasing_trivial_pre_omega)
          refine ⟨xs, rfl, hl, ho, fun ks nd mem q hq0 => ?_⟩
          (repeat decreasing_trivial_pre_omega)
          have el : (sortU (ks.map U.str)).length = ks.length := by unfold sortU; rw [List.length_mergeSort, List.length_map]
          rw [el, List.length_map]
          have := hq _ (sub_new (o := .lst (sortU (ks.map U.str))) s2 hq0)
          rw [Bool.true_and, Bool.true_and, Bool.true_and] at this
          rw [decide_eq_decide.mpr (show ((ks.length : Nat) : Int) = (xs.length : Nat) ↔ (xs.map U.str).Nodup from (by rw [nd_str, ← same_len nd mem]; omega))]
          exact this
      · have b2 : ¬ ((l.length : Nat) : Int) ≤ (hi : Nat) := by omega
        rw [decide_eq_false a2, Bool.and_false] at hq
        (repeat decreasing_trivial_pre_omega)
        exact hq _ (Sub.refl _)
    · have b1 : ¬ (lo : Int) ≤ (l.length : Nat) := by omega
      rw [decide_eq_false a1] at hq
      (repeat decreasing_trivial_pre_omega)
      exact hq _ (Sub.refl _)
  | _ => (repeat decreasing_trivial_pre_omega); exact hq _ (Sub.refl _)
def NamesP (C : CE) (f : Nat) : Prop := ∀ (M : Hm) (n lo hi : Nat) (u : U) (Q : QU), pl n u = true → (∀ M', Sub M M' → Q (.bl (namesU lo hi u)) M') → C f [u, .int lo, .int hi] M Q
end
end Pl.K1

set_option maxHeartbeats 2000000
/-! k01: the bodies right behind a root -/
namespace Pl.K1
open PySem L2
def B_next_bodies (is_name : Nat) (is_put_content : Nat) : S := (.seq (.ifs (.ors (.cons (.not (.isinst (.var 2) "tuple")) (.cons (.cmp .eq (.blt .len (.cons (.var 2) .nil)) (.int 0)) .nil))) (.seq (.ret .non) .skip) .skip) (.seq (.asg 3 (.ix (.var 2) (.int 0))) (.seq (.ifs (.not (.isinst (.var 3) "str")) (.seq (.ret .non) .skip) .skip) (.seq (.ifs (.ands (.cons (.cmp .eq (.var 3) (.str "done")) (.cons (.cmp .eq (.blt .len (.cons (.var 2) .nil)) (.int 1)) .nil))) (.seq (.ret (.tup .nil)) .skip) .skip) (.seq (.ifs (.ands (.cons (.cmp .eq (.var 3) (.str "put")) (.cons (.cmp .eq (.blt .len (.cons (.var 2) .nil)) (.int 4)) (.cons (.call is_name (.cons (.ix (.var 2) (.int 1)) .nil)) (.cons (.call is_put_content (.cons (.var 0) (.cons (.ix (.var 2) (.int 2)) .nil))) .nil))))) (.seq (.ret (.tup (.cons (.ix (.var 2) (.int 3)) .nil))) .skip) .skip) (.seq (.ifs (.ands (.cons (.cmp .eq (.var 3) (.str "ask")) (.cons (.cmp .eq (.blt .len (.cons (.var 2) .nil)) (.int 3)) (.cons (.call is_name (.cons (.ix (.var 2) (.int 1)) .nil)) .nil)))) (.seq (.ret (.ite (.ors (.cons (.isN (.var 1)) (.cons (.cmp .isin (.ix (.var 2) (.int 1)) (.var 1)) .nil))) (.tup (.cons (.ix (.var 2) (.int 2)) .nil)) .non)) .skip) .skip) (.seq (.ifs (.ands (.cons (.cmp .eq (.var 3) (.str "see")) (.cons (.cmp .eq (.blt .len (.cons (.var 2) .nil)) (.int 3)) (.cons (.call is_name (.cons (.ix (.var 2) (.int 1)) .nil)) .nil)))) (.seq (.ifs (.ands (.cons (.isinst (.ix (.var 2) (.int 2)) "tuple") (.cons (.cmp .eq (.blt .len (.cons (.ix (.var 2) (.int 2)) .nil)) (.bin .add (.var 0) (.int 1))) .nil))) (.seq (.ret (.ix (.var 2) (.int 2))) .skip) .skip) .skip) .skip) (.seq (.ret .non) .skip))))))))
def nextU (n : Nat) (ns : List Str) : U → Option (List U)
  | .tup (.str w :: l) =>
    if w = "done" then (match l with | [] => some [] | _ => none)
    else if w = "put" then (match l with | [f, c, b] => if nameU f && putU n c then some [b] else none | _ => none)
    else if w = "ask" then (match l with | [r, b] => if nameU r && decide (r ∈ ns.map U.str) then some [b] else none | _ => none)
    else if w = "see" then (match l with | [f, .tup bs] => if nameU f && decide (bs.length = n + 1) then some bs else none | _ => none)
    else none
  | _ => none
theorem w_pd : ¬ ("put" : Str) = "done" := by decide +kernel
theorem w_ad : ¬ ("ask" : Str) = "done" := by decide +kernel
theorem w_ap : ¬ ("ask" : Str) = "put" := by decide +kernel
theorem w_sd : ¬ ("see" : Str) = "done" := by decide +kernel
theorem w_sp : ¬ ("see" : Str) = "put" := by decide +kernel
theorem w_sa : ¬ ("see" : Str) = "ask" := by decide +kernel
section
variable {n : Nat} {ns : List Str} {l : List U}
theorem nx_done : nextU n ns (.tup [.str "done"]) = some [] := by unfold nextU; dsimp only; rw [if_pos rfl]
theorem nx_done0 (h : l ≠ []) : nextU n ns (.tup (.str "done" :: l)) = none := by
  unfold nextU
  dsimp only
  rw [if_pos rfl]
  cases l with
  | nil => exact absurd rfl h
  | cons _ _ => rfl
theorem nx_put {f c b : U} : nextU n ns (.tup [.str "put", f, c, b]) = if nameU f && putU n c then some [b] else none := by
  unfold nextU
  dsimp only
  rw [if_neg w_pd, if_pos rfl]
theorem nx_put0 (h : l.length ≠ 3) : nextU n ns (.tup (.str "put" :: l)) = none := by
  unfold nextU
  dsimp only
  rw [if_neg w_pd, if_pos rfl]
  match l, h with
  | [], _ => rfl
  | [_], _ => rfl
  | [_, _], _ => rfl
  | [_, _, _], h => exact absurd rfl h
  | _ :: _ :: _ :: _ :: _, _ => rfl
theorem nx_ask {r b : U} : nextU n ns (.tup [.str "ask", r, b]) = if nameU r && decide (r ∈ ns.map U.str) then some [b] else none := by
  unfold nextU
  dsimp only
  rw [if_neg w_ad, if_neg w_ap, if_pos rfl]
theorem nx_ask0 (h : l.length ≠ 2) : nextU n ns (.tup (.str "ask" :: l)) = none := by
  unfold nextU
  dsimp only
  rw [if_neg w_ad, if_neg w_ap, if_pos rfl]
  match l, h with
  | [], _ => rfl
  | [_], _ => rfl
  | [_, _], h => exact absurd rfl h
  | _ :: _ :: _ :: _, _ => rfl
theorem nx_see {f : U} {bs : List U} : nextU n ns (.tup [.str "see", f, .tup bs]) = if nameU f && decide (bs.length = n + 1) then some bs else none := by
  unfold nextU
  dsimp only
  rw [if_neg w_sd, if_neg w_sp, if_neg w_sa, if_pos rfl]
theorem nx_see1 {f b : U} (h : ∀ bs, b ≠ .tup bs) : nextU n ns (.tup [.str "see", f, b]) = none := by
  unfold nextU
  dsimp only
  rw [if_neg w_sd, if_neg w_sp, if_neg w_sa, if_pos rfl]
  cases b with
  | tup bs => exact absurd rfl (h bs)
  | _ => rfl
theorem nx_see0 (h : l.length ≠ 2) : nextU n ns (.tup (.str "see" :: l)) = none := by
  unfold nextU
  dsimp only
  rw [if_neg w_sd, if_neg w_sp, if_neg w_sa, if_pos rfl]
  match l, h with
  | [], _ => rfl
  | [_], _ => rfl
  | [_, _], h => exact absurd rfl h
  | _ :: b :: _ :: _, _ => cases b <;> rfl
theorem nx_oth {w : Str} (h1 : ¬ w = "done") (h2 : ¬ w = "put") (h3 : ¬ w = "ask") (h4 : ¬ w = "see") : nextU n ns (.tup (.str w :: l)) = none := by
  unfold nextU
  dsimp only
  rw [if_neg h1, if_neg h2, if_neg h3, if_neg h4]
theorem nx_nostr {w : U} (h : ∀ s, w ≠ .str s) : nextU n ns (.tup (w :: l)) = none := by
  cases w with
  | str s => exact absurd rfl (h s)
  | _ => rfl
end
theorem at0 {w : U} {l : List U} : atI (w :: l) (0 : Int) = some w := by
  have := atI_nat (l := w :: l) (i := 0) (by simp)
  exact this
theorem two_of {l : List U} (h : l.length = 2) : ∃ a b, l = [a, b] := by
  match l, h with
  | [a, b], _ => exact ⟨a, b, rfl⟩
theorem three_of {l : List U} (h : l.length = 3) : ∃ a b c, l = [a, b, c] := by
  match l, h with
  | [a, b, c], _ => exact ⟨a, b, c, rfl⟩
theorem okL_strs {ns : List Str} (h : ∀ y ∈ ns, okS y = true) : okL (ns.map U.str) = true := List.all_eq_true.mpr fun x hx => by
  obtain ⟨y, hy, rfl⟩ := List.mem_map.mp hx
  unfold U.ok
  exact h y hy
section
variable {C : CE} {nx bk ct : SU → Hm → Prop} {rt : QU} {M : Hm}
theorem next_p {fn fp : Nat} (hN : NameP C fn) (hP : PutP C fp) {n k : Nat} {ns : List Str} {u : U} (h : pl k u = true) (hk : k ≤ 59) (ho : ∀ y ∈ ns, okS y = true)
    (q0 : nextU n ns u = none → ∀ M', Sub M M' → rt .non M') (q1 : ∀ ps, nextU n ns u = some ps → ∀ M', Sub M M' → rt (.tup ps) M') : wS C (B_next_bodies fn fp) ⟨nx, rt, bk, ct⟩ (startU 4 [.int n, .tup (ns.map U.str), u]) M := by
  have hlim : LIM = 100000 := rfl
  unfold B_next_bodies
  cases u with
  | bl _ => cases k <;> cases h
  | ref _ => cases k <;> cases h
  | rol _ => cases k <;> cases h
  | dtp _ => cases k <;> cases h
  | tup l =>
    obtain ⟨hl, m, rfl, hp⟩ := pl_tup h
    cases l with
    | nil =>
      (repeat decreasing_trivial_pre_omega)
      exact q0 rfl _ (Sub.refl _)
    | cons w l =>
      have hw := hp w List.mem_cons_self
      have hlen : ¬ (((w :: l).length : Nat) : Int) = 0 := by simp only [List.length_cons]; omega
      cases w with
      | bl _ => cases m <;> cases hw
      | ref _ => cases m <;> cases hw
      | rol _ => cases m <;> cases hw
      | dtp _ => cases m <;> cases hw
      | str s =>
        by_cases h1 : s = "done"
        · subst h1
          cases l with
          | nil =>
            (repeat decreasing_trivial_pre_omega)
            exact q1 _ nx_done _ (Sub.refl _)
          | cons x l =>
            have hne : ¬ (((U.str "done" :: x :: l).length : Nat) : Int) = 1 := by simp only [List.length_cons]; omega
            (repeat decreasing_trivial_pre_omega)
            refine x_tup at0 ?_
            (repeat decreasing_trivial_pre_omega)
            exact q0 (nx_done0 (by simp)) _ (Sub.refl _)
        by_cases h2 : s = "put"
        · subst h2
          by_cases hl3 : l.length = 3
          · obtain ⟨f, c, b, rfl⟩ := three_of hl3
            (repeat decreasing_trivial_pre_omega)
            refine hN M m f _ (hp f (by simp)) fun M1 s1 => ?_
            cases hf : nameU f with
            | false =>
              (repeat decreasing_trivial_pre_omega)
              exact q0 (by rw [nx_put, hf]; rfl) _ s1
            | true =>
              (repeat decreasing_trivial_pre_omega)
              refine hP M1 n m c _ (hp c (by simp)) ?_
              cases hc : putU n c with
              | false =>
                (repeat decreasing_trivial_pre_omega)
                exact q0 (by rw [nx_put, hf, hc]; rfl) _ s1
              | true =>
                (repeat decreasing_trivial_pre_omega)
                exact q1 _ (by rw [nx_put, hf, hc]; rfl) _ s1
          · have hne : ¬ (((U.str "put" :: l).length : Nat) : Int) = 4 := by simp only [List.length_cons]; omega
            (repeat decreasing_trivial_pre_omega)
            refine x_tup at0 ?_
            (repeat decreasing_trivial_pre_omega)
            exact q0 (nx_put0 hl3) _ (Sub.refl _)
        by_cases h3 : s = "ask"
        · subst h3
          by_cases hl2 : l.length = 2
          · obtain ⟨r, b, rfl⟩ := two_of hl2
            (repeat decreasing_trivial_pre_omega)
            refine hN M m r _ (hp r (by simp)) fun M1 s1 => ?_
            cases hf : nameU r with
            | false =>
              (repeat decreasing_trivial_pre_omega)
              exact q0 (by rw [nx_ask, hf]; rfl) _ s1
            | true =>
              (repeat decreasing_trivial_pre_omega)
              refine in_tupD (pl_okU (hp r (by simp)) (by omega)) (okL_strs ho) ?_
              by_cases hin : r ∈ ns.map U.str
              · rw [decide_eq_true hin]
                (repeat decreasing_trivial_pre_omega)
                exact q1 _ (by rw [nx_ask, hf, decide_eq_true hin]; rfl) _ s1
              · rw [decide_eq_false hin]
                (repeat decreasing_trivial_pre_omega)
                exact q0 (by rw [nx_ask, hf, decide_eq_false hin]; rfl) _ s1
          · have hne : ¬ (((U.str "ask" :: l).length : Nat) : Int) = 3 := by simp only [List.length_cons]; omega
            (repeat decreasing_trivial_pre_omega)
            refine x_tup at0 ?_
            (repeat decreasing_trivial_pre_omega)
            exact q0 (nx_ask0 hl2) _ (Sub.refl _)
        by_cases h4 : s = "see"
        · subst h4
          by_cases hl2 : l.length = 2
          · obtain ⟨f, b, rfl⟩ := two_of hl2
            (repeat decreasing_trivial_pre_omega)
            refine hN M m f _ (hp f (by simp)) fun M1 s1 => ?_
            have hb := hp b (by simp)
            cases hf : nameU f with
            | false =>
              (repeat decreasing_trivial_pre_omega)
              exact q0 (by
                cases b with
                | tup bs => rw [nx_see, hf]; rfl
                | _ => exact nx_see1 fun bs z => by cases z) _ s1
            | true =>
              cases b with
              | bl _ => cases m <;> cases hb
              | ref _ => cases m <;> cases hb
              | rol _ => cases m <;> cases hb
              | dtp _ => cases m <;> cases hb
              | tup bs =>
                by_cases hbl : bs.length = n + 1
                · have hbl' : ((bs.length : Nat) : Int) = (n : Nat) + 1 := by omega
                  (repeat decreasing_trivial_pre_omega)
                  exact q1 _ (by rw [nx_see, hf, decide_eq_true hbl]; rfl) _ s1
                · have hbl' : ¬ ((bs.length : Nat) : Int) = (n : Nat) + 1 := by omega
                  (repeat decreasing_trivial_pre_omega)
                  exact q0 (by rw [nx_see, hf, decide_eq_false hbl]; rfl) _ s1
              | _ =>
                (repeat decreasing_trivial_pre_omega)
                exact q0 (nx_see1 fun bs z => by cases z) _ s1
          · have hne : ¬ (((U.str "see" :: l).length : Nat) : Int) = 3 := by simp only [List.length_cons]; omega
            (repeat decreasing_trivial_pre_omega)
            refine x_tup at0 ?_
            (repeat decreasing_trivial_pre_omega)
            exact q0 (nx_see0 hl2) _ (Sub.refl _)
        (repeat decreasing_trivial_pre_omega)
        refine x_tup at0 ?_
        (repeat decreasing_trivial_pre_omega)
        exact q0 (nx_oth h1 h2 h3 h4) _ (Sub.refl _)
      | _ =>
        (repeat decreasing_trivial_pre_omega)
        refine x_tup at0 ?_
        (repeat decreasing_trivial_pre_omega)
        exact q0 (nx_nostr fun s z => by cases z) _ (Sub.refl _)
  | _ => (repeat decreasing_trivial_pre_omega); exact q0 rfl _ (Sub.refl _)
def NextP (C : CE) (f : Nat) : Prop := ∀ (M : Hm) (n k : Nat) (ns : List Str) (u : U) (Q : QU), pl k u = true → k ≤ 59 → (∀ y ∈ ns, okS y = true) → (nextU n ns u = none → ∀ M', Sub M M' → Q .non M') → (∀ ps, nextU n ns u = some ps → ∀ M', Sub M M' → Q (.tup ps) M') → C f [.int n, .tup (ns.map U.str), u] M Q
end
end Pl.K1

set_option maxHeartbeats 2000000
/-! k01: a body within the limits -/
namespace Pl.K1
open PySem L2
def B_check_body (next_bodies : Nat) : S := (.seq (.asg 3 (.lst (.cons (.tup (.cons (.var 2) (.cons (.int 1) .nil))) .nil))) (.seq (.asg 4 (.int 0)) (.seq (.whl (.var 3) (.seq (.asgT [5, 6] (.mth .pop (.var 3) .nil)) (.seq (.asg 4 (.bin .add (.var 4) (.int 1))) (.seq (.ifs (.ors (.cons (.cmp .gt (.var 4) (.gint "MOST_NODES" (120))) (.cons (.cmp .gt (.var 6) (.gint "MOST_PATH" (16))) .nil))) (.seq (.ret (.bl false)) .skip) .skip) (.seq (.asg 7 (.call next_bodies (.cons (.var 0) (.cons (.var 1) (.cons (.var 5) .nil))))) (.seq (.ifs (.isN (.var 7)) (.seq (.ret (.bl false)) .skip) .skip) (.seq (.for_ (.one 8) (.iSeq (.var 7)) (.seq (.expr (.mth .append (.var 3) (.cons (.tup (.cons (.var 8) (.cons (.bin .add (.var 6) (.int 1)) .nil))) .nil))) .skip)) .skip))))))) (.seq (.ret (.bl true)) .skip))))
def chk (n : Nat) (ns : List Str) : Nat → List (U × Nat) → Bool
  | _, [] => true
  | 0, _ :: _ => false
  | f + 1, x :: st => if 16 < x.2 then false else match nextU n ns x.1 with
    | none => false
    | some ps => chk n ns f ((ps.map fun p => (p, x.2 + 1)).reverse ++ st)
theorem chk_nil {n f : Nat} {ns : List Str} : chk n ns f [] = true := by cases f <;> rfl
theorem chk_deep {n f : Nat} {ns : List Str} {x : U × Nat} {st : List (U × Nat)} (h : 16 < x.2) : chk n ns f (x :: st) = false := by
  cases f with
  | zero => rfl
  | succ f => unfold chk; rw [if_pos h]
theorem chk_none {n f : Nat} {ns : List Str} {x : U × Nat} {st : List (U × Nat)} (h : nextU n ns x.1 = none) : chk n ns f (x :: st) = false := by
  cases f with
  | zero => rfl
  | succ f =>
    unfold chk
    rw [h]
    split <;> rfl
theorem chk_some {n f : Nat} {ns : List Str} {x : U × Nat} {st : List (U × Nat)} {ps : List U} (h0 : ¬ 16 < x.2) (h : nextU n ns x.1 = some ps) : chk n ns (f + 1) (x :: st) = chk n ns f ((ps.map fun p => (p, x.2 + 1)).reverse ++ st) := by
  conv => lhs; unfold chk
  rw [if_neg h0, h]
def encP (x : U × Nat) : U := .tup [x.1, .int x.2]
theorem next_pl {n : Nat} {ns : List Str} {u : U} {ps : List U} (h : nextU n ns u = some ps) (hp : pl 59 u = true) : ps.length ≤ n + 1 ∧ ∀ p ∈ ps, pl 59 p = true := by
  cases u with
  | tup l =>
    obtain ⟨hl, m, em, hm⟩ := pl_tup hp
    have up : ∀ x, pl m x = true → pl 59 x = true := fun x hx => pl_le hx (by omega)
    cases l with
    | nil => cases h
    | cons w l =>
      cases w with
      | str s =>
        by_cases h1 : s = "done"
        · subst h1
          cases l with
          | nil => rw [nx_done] at h; cases h; exact ⟨Nat.zero_le _, fun _ z => nomatch z⟩
          | cons x l => rw [nx_done0 (by simp)] at h; cases h
        by_cases h2 : s = "put"
        · subst h2
          by_cases hl3 : l.length = 3
          · obtain ⟨f, c, b, rfl⟩ := three_of hl3
            rw [nx_put] at h
            split at h
            · cases h
              exact ⟨by simp, fun p hx => by rw [List.mem_singleton.mp hx]; exact up _ (hm _ (by simp))⟩
            · cases h
          · rw [nx_put0 hl3] at h; cases h
        by_cases h3 : s = "ask"
        · subst h3
          by_cases hl2 : l.length = 2
          · obtain ⟨r, b, rfl⟩ := two_of hl2
            rw [nx_ask] at h
            split at h
            · cases h
              exact ⟨by simp, fun p hx => by rw [List.mem_singleton.mp hx]; exact up _ (hm _ (by simp))⟩
            · cases h
          · rw [nx_ask0 hl2] at h; cases h
        by_cases h4 : s = "see"
        · subst h4
          by_cases hl2 : l.length = 2
          · obtain ⟨f, b, rfl⟩ := two_of hl2
            cases b with
            | tup bs =>
              rw [nx_see] at h
              split at h
              · rename_i hc
                cases h
                rw [Bool.and_eq_true, decide_eq_true_eq] at hc
                obtain ⟨_, m2, em2, hm2⟩ := pl_tup (hm (.tup ps) (by simp))
                exact ⟨by omega, fun p hx => pl_le (hm2 p hx) (by omega)⟩
              · cases h
            | _ => rw [nx_see1 (fun bs z => by cases z)] at h; cases h
          · rw [nx_see0 hl2] at h; cases h
        rw [nx_oth h1 h2 h3 h4] at h
        cases h
      | _ => cases h
  | _ => cases h
section
variable {C : CE} {nx bk ct : SU → Hm → Prop} {rt : QU} {M : Hm}
theorem z_whl' {C : CE} {c : E} {x : S} {nx bk ct : SU → Hm → Prop} {rt : QU} {σ : SU} {M : Hm} {W : Nat → SU → Hm → Prop} (h0 : ∃ m, W m σ M) (h : ∀ m σ M, W m σ M → (w C c).t σ M fun k M1 => if k = true then wS C x ⟨fun σ' M' => ∃ m', m' < m ∧ W m' σ' M', rt, nx, fun σ' M' => ∃ m', m' < m ∧ W m' σ' M'⟩ σ M1 else nx σ M1) : wS C (.whl c x) ⟨nx, rt, bk, ct⟩ σ M := ⟨W, h0, h⟩
theorem check_body_p {fn : Nat} (hX : NextP C fn) {n : Nat} {ns : List Str} {u : U} (hn : n ≤ 4) (h : pl 59 u = true) (ho : ∀ y ∈ ns, okS y = true) (hq : ∀ M', Sub M M' → rt (.bl (chk n ns 120 [(u, 1)])) M') : wS C (B_check_body fn) ⟨nx, rt, bk, ct⟩ (startU 9 [.int n, .tup (ns.map U.str), u]) M := by
  have hlim : LIM = 100000 := rfl
  unfold B_check_body
  (repeat decreasing_trivial_pre_omega)
  intro q hq0
  (repeat decreasing_trivial_pre_omega)
  refine z_whl' (W := fun m σ M' => ∃ (st : List (U × Nat)) (c f : Nat) (u5 u6 u7 u8 : Option U), m = f ∧ σ = [some (.int n), some (.tup (ns.map U.str)), some u, some (.ref q), some (.int c), u5, u6, u7, u8] ∧ c + f = 120 ∧ M' q = some (.lst (st.reverse.map encP)) ∧ Sub M M' ∧
      chk n ns f st = chk n ns 120 [(u, 1)] ∧ st.length + 5 * f ≤ 601 ∧ ∀ x ∈ st, pl 59 x.1 = true) ⟨120, [(u, 1)], 0, 120, none, none, none, none, rfl, rfl, rfl, um_same, sub_um (Sub.refl _) hq0, rfl, by simp, fun x hx => by rw [List.mem_singleton.mp hx]; exact h⟩ ?_
  intro m σ M1 ⟨st, c, f, u5, u6, u7, u8, em, e1, ec, h1, s1, er, hl, hp⟩
  subst em e1
  cases st with
  | nil =>
    have h1' : M1 q = some (.lst []) := h1
    (repeat decreasing_trivial_pre_omega)
    have := hq M1 s1
    rw [← er, chk_nil] at this
    exact this
  | cons x st =>
    obtain ⟨v, d⟩ := x
    have h1' : M1 q = some (.lst (st.reverse.map encP ++ [.tup [v, .int (d : Nat)]])) := by rw [h1]; simp [encP]
    have hnn : ¬ st.reverse.map encP ++ [.tup [v, .int (d : Nat)]] = [] := by simp
    have hf : ∀ M', Sub M M' → chk n ns m ((v, d) :: st) = false → rt (.bl false) M' := fun M' s' e => by
      have := hq M' s'
      rw [← er, e] at this
      exact this
    (repeat decreasing_trivial_pre_omega)
    refine m_pop h1' (last_get _ _) ?_
    rw [List.dropLast_concat]
    have s2 : Sub M (um M1 q (.lst (st.reverse.map encP))) := sub_um s1 hq0
    have h2 : (um M1 q (.lst (st.reverse.map encP))) q = some (.lst (st.reverse.map encP)) := um_same
    generalize um M1 q (.lst (st.reverse.map encP)) = M2 at *
    cases m with
    | zero =>
      have g1 : (120 : Int) < (c : Nat) + 1 := by omega
      (repeat decreasing_trivial_pre_omega)
      exact hf _ s2 rfl
    | succ f =>
      have g1 : ¬ (120 : Int) < (c : Nat) + 1 := by omega
      by_cases hd : 16 < d
      · have g2 : (16 : Int) < (d : Nat) := by omega
        (repeat decreasing_trivial_pre_omega)
        exact hf _ s2 (chk_deep hd)
      have g2 : ¬ (16 : Int) < (d : Nat) := by omega
      (repeat decreasing_trivial_pre_omega)
      refine hX M2 n 59 ns v _ (hp (v, d) List.mem_cons_self) (Nat.le_refl _) ho (fun e M3 s3 => ?_) fun ps e M3 s3 => ?_
      · (repeat decreasing_trivial_pre_omega)
        exact hf _ (s2.trans s3) (chk_none e)
      obtain ⟨pl1, pl2⟩ := next_pl e (hp (v, d) List.mem_cons_self)
      have h3 := s3 _ _ h2
      have s3' := s2.trans s3
      simp only [List.length_cons] at hl
      (repeat decreasing_trivial_pre_omega)
      refine forL_id (fun don rest σ M' => ∃ u8, σ = [some (.int n), some (.tup (ns.map U.str)), some u, some (.ref q), some (.int ((c : Nat) + 1)), some v, some (.int d), some (.tup ps), u8] ∧ Sub M M' ∧ M' q = some (.lst (st.reverse.map encP ++ don.map fun p => encP (p, d + 1)))) ps ⟨_, rfl, s3', by rw [h3]; simp⟩ ?_ ?_
      · intro don y rest σ M4 k ed ⟨u8', e1, s4, h4⟩ hk
        subst e1
        have hdl : don.length + rest.length + 1 = ps.length := by rw [← ed]; simp; omega
        (repeat decreasing_trivial_pre_omega)
        refine m_app h4 (by simp; omega) ?_
        (repeat decreasing_trivial_pre_omega)
        refine hk _ _ trivial ⟨_, rfl, sub_um s4 hq0, ?_⟩
        rw [um_same]
        simp [encP]
      · intro σ M4 ⟨u8', e1, s4, h4⟩
        subst e1
        (repeat decreasing_trivial_pre_omega)
        refine ⟨f, Nat.lt_succ_self _, (ps.map fun p => (p, d + 1)).reverse ++ st, c + 1, f, _, _, _, _, rfl, rfl, by omega, ?_, s4, ?_, by simp; omega, fun y hy => ?_⟩
        · rw [h4]
          simp [Function.comp_def]
        · rw [← er, chk_some hd e]
        · rcases List.mem_append.mp hy with hy | hy
          · obtain ⟨p, hpp, rfl⟩ := List.mem_map.mp (List.mem_reverse.mp hy)
            exact pl2 p hpp
          · exact hp y (List.mem_cons_of_mem _ hy)
def ChkP (C : CE) (f : Nat) : Prop := ∀ (M : Hm) (n : Nat) (ns : List Str) (u : U) (Q : QU), n ≤ 4 → pl 59 u = true → (∀ y ∈ ns, okS y = true) → (∀ M', Sub M M' → Q (.bl (chk n ns 120 [(u, 1)])) M') → C f [.int n, .tup (ns.map U.str), u] M Q
end
end Pl.K1

set_option maxHeartbeats 2000000
/-! k01: is_book, and what is due -/
namespace Pl.K1
open PySem L2
def B_are_rules (are_names : Nat) : S := (.seq (.ifs (.ors (.cons (.not (.isinst (.var 0) "tuple")) (.cons (.not (.chain .le .le (.int 1) (.blt .len (.cons (.var 0) .nil)) (.gint "MOST_RULES" (8)))) .nil))) (.seq (.ret (.bl false)) .skip) .skip) (.seq (.for_ (.one 1) (.iSeq (.var 0)) (.seq (.ifs (.ors (.cons (.not (.isinst (.var 1) "tuple")) (.cons (.cmp .ne (.blt .len (.cons (.var 1) .nil)) (.int 2)) .nil))) (.seq (.ret (.bl false)) .skip) .skip) .skip)) (.seq (.ret (.call are_names (.cons (.blt .tuple (.cons (.comp [("pair", 1)] (.one 1) (.iSeq (.var 0)) .nil (.ix (.var 1) (.int 0))) .nil)) (.cons (.int 1) (.cons (.gint "MOST_RULES" (8)) .nil))))) .skip)))
def B_is_book (check_body : Nat) (are_rules : Nat) (are_names : Nat) (is_int : Nat) : S := (.seq (.ifs (.ors (.cons (.not (.isinst (.var 0) "tuple")) (.cons (.cmp .ne (.blt .len (.cons (.var 0) .nil)) (.int 3)) .nil))) (.seq (.ret (.bl false)) .skip) .skip) (.seq (.asgT [1, 2, 3] (.var 0)) (.seq (.ifs (.ors (.cons (.not (.call is_int (.cons (.var 1) .nil))) (.cons (.not (.chain .le .le (.int 1) (.var 1) (.gint "MOST_KINDS" (4)))) .nil))) (.seq (.ret (.bl false)) .skip) .skip) (.seq (.ifs (.ors (.cons (.not (.call are_names (.cons (.var 2) (.cons (.int 0) (.cons (.gint "MOST_SOURCES" (5)) .nil))))) (.cons (.not (.call are_rules (.cons (.var 3) .nil))) .nil))) (.seq (.ret (.bl false)) .skip) .skip) (.seq (.asg 4 (.blt .tuple (.cons (.comp [("pair", 5)] (.one 5) (.iSeq (.var 3)) .nil (.ix (.var 5) (.int 0))) .nil))) (.seq (.ret (.blt .all (.cons (.comp [("pair", 5)] (.one 5) (.iSeq (.var 3)) .nil (.call check_body (.cons (.var 1) (.cons (.var 4) (.cons (.ix (.var 5) (.int 1)) .nil))))) .nil))) .skip))))))
def fstU : U → U
  | .tup [a, _] => a
  | _ => .non
def sndU : U → U
  | .tup [_, b] => b
  | _ => .non
def pairU : U → Bool
  | .tup [_, _] => true
  | _ => false
def strsU : List U → List Str
  | [] => []
  | .str s :: l => s :: strsU l
  | _ :: l => strsU l
def rulesU : U → Bool
  | .tup rows => (decide (1 ≤ rows.length) && decide (rows.length ≤ 8)) && (rows.all pairU && namesU 1 8 (.tup (rows.map fstU)))
  | _ => false
def kindU : U → Bool
  | .int i => decide (1 ≤ i) && decide (i ≤ 4)
  | _ => false
def bodU : U → U → Bool
  | .int i, .tup rows => rows.all fun r => chk i.toNat (strsU (rows.map fstU)) 120 [(sndU r, 1)]
  | _, _ => false
def bookU : U → Bool
  | .tup [k, s, r] => kindU k && (namesU 0 5 s && (rulesU r && bodU k r))
  | _ => false
theorem pair_of {x : U} (h : pairU x = true) : ∃ a b, x = .tup [a, b] := by
  cases x with
  | tup l =>
    match l, h with
    | [a, b], _ => exact ⟨a, b, rfl⟩
  | _ => cases h
theorem strs_map : ∀ {l : List U}, l.all nameU = true → (strsU l).map U.str = l
  | [], _ => rfl
  | x :: l, h => by
    rw [List.all_cons, Bool.and_eq_true] at h
    cases x with
    | str s => show U.str s :: (strsU l).map U.str = _; rw [strs_map h.2]
    | _ => cases h.1
theorem strs_ok {n : Nat} : ∀ {l : List U}, (∀ x ∈ l, pl n x = true) → l.all nameU = true → ∀ y ∈ strsU l, okS y = true ∧ nameS y = true
  | [], _, _, y, hy => nomatch hy
  | x :: l, hp, h, y, hy => by
    rw [List.all_cons, Bool.and_eq_true] at h
    cases x with
    | str s =>
      have hy : y ∈ s :: strsU l := hy
      rcases List.mem_cons.mp hy with rfl | hy
      · exact ⟨(pl_str (hp _ List.mem_cons_self)).1, h.1⟩
      · exact strs_ok (fun z hz => hp z (List.mem_cons_of_mem _ hz)) h.2 y hy
    | _ => cases h.1
theorem names_all {lo hi : Nat} {l : List U} (h : namesU lo hi (.tup l) = true) : l.all nameU = true := by
  have h : ((decide (lo ≤ l.length) && decide (l.length ≤ hi)) && (l.all nameU && decide l.Nodup)) = true := h
  have h2 := ((Bool.and_eq_true _ _).mp h).2
  exact ((Bool.and_eq_true _ _).mp h2).1
section
variable {C : CE} {nx bk ct : SU → Hm → Prop} {rt : QU} {M : Hm}
theorem fst_pl {n : Nat} {rows : List U} (hp : ∀ x ∈ rows, pl (n + 1) x = true) (h : rows.all pairU = true) : ∀ x ∈ rows.map fstU, pl n x = true := fun x hx => by
  obtain ⟨r, hr, rfl⟩ := List.mem_map.mp hx
  obtain ⟨a, b, rfl⟩ := pair_of (List.all_eq_true.mp h r hr)
  obtain ⟨_, m, em, hm⟩ := pl_tup (hp _ hr)
  have : n = m := by omega
  subst this
  exact hm a (by simp)
theorem are_rules_p {fn : Nat} (hN : NamesP C fn) {n : Nat} {u : U} (h : pl (n + 2) u = true) (hq : ∀ M', Sub M M' → rt (.bl (rulesU u)) M') : wS C (B_are_rules fn) ⟨nx, rt, bk, ct⟩ (startU 2 [u]) M := by
  have hlim : LIM = 100000 := rfl
  unfold B_are_rules
  cases u with
  | bl _ => cases h
  | ref _ => cases h
  | rol _ => cases h
  | dtp _ => cases h
  | tup l =>
    obtain ⟨hl, m, em, hp⟩ := pl_tup h
    have : m = n + 1 := by omega
    subst this
    have hq : ∀ M', Sub M M' → rt (.bl ((decide (1 ≤ l.length) && decide (l.length ≤ 8)) && (l.all pairU && namesU 1 8 (.tup (l.map fstU))))) M' := hq
    (repeat decreasing_trivial_pre_omega)
    by_cases a1 : 1 ≤ l.length
    · have b1 : (1 : Int) ≤ (l.length : Nat) := by omega
      by_cases a2 : l.length ≤ 8
      · have b2 : ((l.length : Nat) : Int) ≤ 8 := by omega
        rw [decide_eq_true a1, decide_eq_true a2] at hq
        (repeat decreasing_trivial_pre_omega)
        refine forL_id (fun don rest σ M' => ∃ u1, σ = [some (.tup l), u1] ∧ M' = M ∧ don.all pairU = true) l ⟨none, rfl, rfl, rfl⟩ ?_ ?_
        · intro don x rest σ M1 k e ⟨u1, e1, e2, e3⟩ hk
          subst e1 e2
          have hx := hp x (by rw [← e]; simp)
          have bad : pairU x = false → ∀ M', Sub M1 M' → rt (.bl false) M' := fun hf M' s => by
            have := hq M' s
            rwa [show l.all pairU = false by rw [← e, List.all_append, List.all_cons, hf]; simp, Bool.false_and] at this
          cases x with
          | bl _ => cases hx
          | ref _ => cases hx
          | rol _ => cases hx
          | dtp _ => cases hx
          | tup xs =>
            by_cases hx2 : xs.length = 2
            · obtain ⟨a, b, rfl⟩ := two_of hx2
              (repeat decreasing_trivial_pre_omega)
              exact hk _ _ trivial ⟨_, rfl, rfl, by rw [List.all_append, e3]; rfl⟩
            · have hx2' : ¬ ((xs.length : Nat) : Int) = 2 := by omega
              (repeat decreasing_trivial_pre_omega)
              refine bad ?_ _ (Sub.refl _)
              cases hpx : pairU (.tup xs) with
              | false => rfl
              | true => obtain ⟨a, b, e⟩ := pair_of hpx; cases e; exact absurd rfl hx2
          | _ =>
            (repeat decreasing_trivial_pre_omega)
            exact bad rfl _ (Sub.refl _)
        intro σ M1 ⟨u1, e1, e2, e3⟩
        subst e1 e2
        rw [e3, Bool.true_and, Bool.true_and, Bool.true_and] at hq
        (repeat decreasing_trivial_pre_omega)
        refine compL_id (fun don rest acc M' => M' = M1 ∧ acc = don.map fstU) l ⟨rfl, rfl⟩ ?_ ?_
        · intro don x rest acc M2 k e ⟨e4, e5⟩ hk
          subst e4 e5
          have hdl : don.length ≤ 1000 := by
            have : don.length ≤ l.length := by rw [← e]; simp
            omega
          obtain ⟨a, b, rfl⟩ := pair_of (List.all_eq_true.mp e3 x (by rw [← e]; simp))
          (repeat decreasing_trivial_pre_omega)
          exact hk _ _ trivial (fun _ => by rw [List.length_map]; omega) ⟨rfl, by simp [fstU]⟩
        intro acc M2 ⟨e4, e5⟩
        subst e4 e5
        intro a ha
        have a1 : (um M2 a (.lst (l.map fstU))) a = some (.lst (l.map fstU)) := um_same
        have s1 : Sub M2 (um M2 a (.lst (l.map fstU))) := sub_um (Sub.refl _) ha
        generalize um M2 a (.lst (l.map fstU)) = M3 at *
        (repeat decreasing_trivial_pre_omega)
        refine hN M3 (n + 1) 1 8 (.tup (l.map fstU)) _ ?_ fun M4 s4 => hq _ (s1.trans s4)
        show (decide ((l.map fstU).length ≤ 1000) && (l.map fstU).all (pl n)) = true
        rw [Bool.and_eq_true, List.all_eq_true]
        exact ⟨decide_eq_true (by rw [List.length_map]; exact hl), fst_pl hp e3⟩
      · have b2 : ¬ ((l.length : Nat) : Int) ≤ 8 := by omega
        rw [decide_eq_false a2, Bool.and_false] at hq
        (repeat decreasing_trivial_pre_omega)
        exact hq _ (Sub.refl _)
    · have b1 : ¬ (1 : Int) ≤ (l.length : Nat) := by omega
      rw [decide_eq_false a1] at hq
      (repeat decreasing_trivial_pre_omega)
      exact hq _ (Sub.refl _)
  | _ => (repeat decreasing_trivial_pre_omega); exact hq _ (Sub.refl _)
def RulesP (C : CE) (f : Nat) : Prop := ∀ (M : Hm) (n : Nat) (u : U) (Q : QU), pl (n + 2) u = true → (∀ M', Sub M M' → Q (.bl (rulesU u)) M') → C f [u] M Q
theorem three_not {l : List U} (h : l.length ≠ 3) : bookU (.tup l) = false := by
  match l, h with
  | [], _ => rfl
  | [_], _ => rfl
  | [_, _], _ => rfl
  | [_, _, _], h => exact absurd rfl h
  | _ :: _ :: _ :: _ :: _, _ => rfl
theorem is_book_p {fc fr fn fi : Nat} (hC : ChkP C fc) (hR : RulesP C fr) (hN : NamesP C fn) (hI : IntP C fi) {u : U} (h : pl 50 u = true) (hq : ∀ M', Sub M M' → rt (.bl (bookU u)) M') : wS C (B_is_book fc fr fn fi) ⟨nx, rt, bk, ct⟩ (startU 6 [u]) M := by
  have hlim : LIM = 100000 := rfl
  unfold B_is_book
  cases u with
  | bl _ => cases h
  | ref _ => cases h
  | rol _ => cases h
  | dtp _ => cases h
  | tup l =>
    obtain ⟨hl, m, em, hp⟩ := pl_tup h
    obtain rfl : m = 49 := by omega
    by_cases h3 : l.length = 3
    · obtain ⟨k, s, r, rfl⟩ := three_of h3
      have hk := hp k (by simp)
      have hs := hp s (by simp)
      have hr := hp r (by simp)
      have hq : ∀ M', Sub M M' → rt (.bl (kindU k && (namesU 0 5 s && (rulesU r && bodU k r)))) M' := hq
      (repeat decreasing_trivial_pre_omega)
      refine hI M 49 k _ hk ?_
      cases k with
      | bl _ => cases hk
      | ref _ => cases hk
      | rol _ => cases hk
      | dtp _ => cases hk
      | int i =>
        simp only [intU]
        have hq : ∀ M', Sub M M' → rt (.bl ((decide (1 ≤ i) && decide (i ≤ 4)) && (namesU 0 5 s && (rulesU r && bodU (.int i) r)))) M' := hq
        by_cases a1 : 1 ≤ i
        · by_cases a2 : i ≤ 4
          · rw [decide_eq_true a1, decide_eq_true a2, Bool.true_and, Bool.true_and] at hq
            (repeat decreasing_trivial_pre_omega)
            refine hN M 49 0 5 s _ hs fun M1 s1 => ?_
            cases hns : namesU 0 5 s with
            | false =>
              rw [hns] at hq
              (repeat decreasing_trivial_pre_omega)
              exact hq _ s1
            | true =>
              rw [hns, Bool.true_and] at hq
              (repeat decreasing_trivial_pre_omega)
              refine hR M1 47 r _ hr fun M2 s2 => ?_
              cases hru : rulesU r with
              | false =>
                rw [hru] at hq
                (repeat decreasing_trivial_pre_omega)
                exact hq _ (s1.trans s2)
              | true =>
                rw [hru, Bool.true_and] at hq
                cases r with
                | tup rows =>
                  have hru' : ((decide (1 ≤ rows.length) && decide (rows.length ≤ 8)) && (rows.all pairU && namesU 1 8 (.tup (rows.map fstU)))) = true := hru
                  have c1 := ((Bool.and_eq_true _ _).mp hru').2
                  have hpa : rows.all pairU = true := ((Bool.and_eq_true _ _).mp c1).1
                  have hna := names_all ((Bool.and_eq_true _ _).mp c1).2
                  have hrl : rows.length ≤ 8 := of_decide_eq_true ((Bool.and_eq_true _ _).mp ((Bool.and_eq_true _ _).mp hru').1).2
                  obtain ⟨_, m2, em2, hpr⟩ := pl_tup hr
                  obtain rfl : m2 = 48 := by omega
                  have en := strs_map hna
                  have okn := strs_ok (fst_pl hpr hpa) hna
                  obtain ⟨n, rfl⟩ : ∃ n : Nat, i = n := ⟨i.toNat, by omega⟩
                  have hq : ∀ M', Sub M M' → rt (.bl (rows.all fun r => chk n (strsU (rows.map fstU)) 120 [(sndU r, 1)])) M' := hq
                  generalize strsU (rows.map fstU) = ns at *
                  (repeat decreasing_trivial_pre_omega)
                  refine compL_id (fun don rest acc M' => M' = M2 ∧ acc = don.map fstU) rows ⟨rfl, rfl⟩ ?_ ?_
                  · intro don x rest acc M3 k e ⟨e4, e5⟩ hk
                    subst e4 e5
                    have hdl : don.length ≤ 8 := by
                      have : don.length ≤ rows.length := by rw [← e]; simp
                      omega
                    obtain ⟨a, b, rfl⟩ := pair_of (List.all_eq_true.mp hpa x (by rw [← e]; simp))
                    (repeat decreasing_trivial_pre_omega)
                    exact hk _ _ trivial (fun _ => by rw [List.length_map]; omega) ⟨rfl, by simp [fstU]⟩
                  intro acc M3 ⟨e4, e5⟩
                  subst e4 e5
                  intro a ha
                  have a3 : (um M3 a (.lst (rows.map fstU))) a = some (.lst (rows.map fstU)) := um_same
                  have s3 : Sub M (um M3 a (.lst (rows.map fstU))) := sub_new (s1.trans s2) ha
                  generalize um M3 a (.lst (rows.map fstU)) = M4 at *
                  rw [← en] at *
                  (repeat decreasing_trivial_pre_omega)
                  refine compL_id (fun don rest acc M' => Sub M M' ∧ acc = (don.map fun r => chk n ns 120 [(sndU r, 1)]).map U.bl) rows ⟨s3, rfl⟩ ?_ ?_
                  · intro don x rest acc M5 k e ⟨e4, e5⟩ hk
                    subst e5
                    have hdl : don.length ≤ 8 := by
                      have : don.length ≤ rows.length := by rw [← e]; simp
                      omega
                    have hxm : x ∈ rows := by rw [← e]; simp
                    obtain ⟨b1, b2, rfl⟩ := pair_of (List.all_eq_true.mp hpa x hxm)
                    obtain ⟨_, m3, em3, hm3⟩ := pl_tup (hpr _ hxm)
                    (repeat decreasing_trivial_pre_omega)
                    refine hC M5 n ns b2 _ (by omega) (pl_le (hm3 b2 (by simp)) (by omega)) (fun y hy => (okn y hy).1) fun M6 s6 => ?_
                    exact hk _ _ trivial (fun _ => by rw [List.length_map, List.length_map]; omega) ⟨e4.trans s6, by simp [sndU]⟩
                  intro acc M5 ⟨e4, e5⟩
                  subst e5
                  intro g hg
                  have g1 : (um M5 g (.lst ((rows.map fun r => chk n ns 120 [(sndU r, 1)]).map U.bl))) g = some (.lst ((rows.map fun r => chk n ns 120 [(sndU r, 1)]).map U.bl)) := um_same
                  have s6 : Sub M (um M5 g (.lst ((rows.map fun r => chk n ns 120 [(sndU r, 1)]).map U.bl))) := sub_new e4 hg
                  generalize um M5 g (.lst ((rows.map fun r => chk n ns 120 [(sndU r, 1)]).map U.bl)) = M6 at *
                  (repeat decreasing_trivial_pre_omega)
                  rw [all_bl]
                  exact hq _ s6
                | _ => cases hru
          · rw [decide_eq_false a2, Bool.and_false] at hq
            (repeat decreasing_trivial_pre_omega)
            exact hq _ (Sub.refl _)
        · rw [decide_eq_false a1] at hq
          (repeat decreasing_trivial_pre_omega)
          exact hq _ (Sub.refl _)
      | _ =>
        simp only [intU]
        (repeat decreasing_trivial_pre_omega)
        exact hq _ (Sub.refl _)
    · have h3' : ¬ ((l.length : Nat) : Int) = 3 := by omega
      rw [three_not h3] at hq
      (repeat decreasing_trivial_pre_omega)
      exact hq _ (Sub.refl _)
  | _ => (repeat decreasing_trivial_pre_omega); exact hq _ (Sub.refl _)
def BookP (C : CE) (f : Nat) : Prop := ∀ (M : Hm) (u : U) (Q : QU), pl 50 u = true → (∀ M', Sub M M' → Q (.bl (bookU u)) M') → C f [u] M Q
end
end Pl.K1

set_option maxHeartbeats 2000000
/-! k01: odd names, bodies of a size, long paths -/
namespace Pl.K1
open PySem L2
def B_law_with_body : S := (.seq (.ret (.tup (.cons (.ix (.var 0) (.int 0)) (.cons (.ix (.var 0) (.int 1)) (.cons (.blt .tuple (.cons (.comp [("row", 3)] (.one 3) (.iSeq (.ix (.var 0) (.int 2))) .nil (.ite (.cmp .eq (.ix (.var 3) (.int 0)) (.var 1)) (.tup (.cons (.ix (.var 3) (.int 0)) (.cons (.var 2) .nil))) (.var 3))) .nil)) .nil))))) .skip)
theorem pl_t {n : Nat} {l : List U} (h1 : l.length ≤ 1000) (h2 : ∀ x ∈ l, pl n x = true) : pl (n + 1) (.tup l) = true := by
  show (decide (l.length ≤ 1000) && l.all (pl n)) = true
  rw [Bool.and_eq_true, List.all_eq_true]
  exact ⟨decide_eq_true h1, h2⟩
theorem pl2 {n : Nat} {a b : U} (ha : pl n a = true) (hb : pl n b = true) : pl (n + 1) (.tup [a, b]) = true := pl_t (by simp) fun x hx => by
  simp only [List.mem_cons, List.not_mem_nil, or_false] at hx
  rcases hx with rfl | rfl <;> assumption
theorem pl3 {n : Nat} {a b c : U} (ha : pl n a = true) (hb : pl n b = true) (hc : pl n c = true) : pl (n + 1) (.tup [a, b, c]) = true := pl_t (by simp) fun x hx => by
  simp only [List.mem_cons, List.not_mem_nil, or_false] at hx
  rcases hx with rfl | rfl | rfl <;> assumption
theorem pl4 {n : Nat} {a b c d : U} (ha : pl n a = true) (hb : pl n b = true) (hc : pl n c = true) (hd : pl n d = true) : pl (n + 1) (.tup [a, b, c, d]) = true := pl_t (by simp) fun x hx => by
  simp only [List.mem_cons, List.not_mem_nil, or_false] at hx
  rcases hx with rfl | rfl | rfl | rfl <;> assumption
def okD (k : Nat) : Nat → Nat → Bool
  | 0, m => decide (m ≤ 1)
  | f + 1, m => decide (m ≤ 1) || (if m < k + 2 then okD k f (m - 1) else okD k f (m - 1 - k * ((m - 1) / (k + 1))) && okD k f ((m - 1) / (k + 1)))
section
variable {C : CE} {nx bk ct : SU → Hm → Prop} {rt : QU} {M : Hm}
end
end Pl.K1

set_option maxHeartbeats 2000000
/-! k01: a body that is odd, a book with it -/
namespace Pl.K1
open PySem L2
section
variable {C : CE} {nx bk ct : SU → Hm → Prop} {rt : QU} {M : Hm}
end
end Pl.K1

set_option maxHeartbeats 2000000
/-! k01: a book with one thing changed -/
namespace Pl.K1
open PySem L2
theorem nm_pl {s : Str} (h : nmS s = true) (n : Nat) : pl n (.str s) = true := by
  unfold nmS nameS at h
  replace h := ((Bool.and_eq_true _ _).mp h).1
  rw [Bool.and_eq_true, Bool.and_eq_true, Bool.and_eq_true] at h
  have h2 : s.length ≤ 8 := of_decide_eq_true h.2.1.2
  have : pl 0 (.str s) = true := by
    show (okS s && decide (s.length ≤ 1000)) = true
    rw [Bool.and_eq_true]
    exact ⟨h.1, decide_eq_true (by omega)⟩
  exact pl_le this (Nat.zero_le _)
theorem bd_pl {n : Nat} (hn : n ≤ 4) {pp : Str → Int → Prop} {pa ps : Str → Prop} (h1 : ∀ f c, pp f c → nmS f = true) (h2 : ∀ f, pa f → nmS f = true) (h3 : ∀ f, ps f → nmS f = true) : ∀ {j : Nat} {b : Bd}, BP (n + 1) pp pa ps j b → pl (2 * j + 1) (encB b) = true := by
  intro j b h
  induction h with
  | done => exact pl_le (n := 1) (by decide +kernel) (by omega)
  | @put k f c b a _ ih =>
    unfold encB
    exact pl_le (pl4 (pl_le (n := 0) (by decide +kernel) (Nat.zero_le _)) (nm_pl (h1 _ _ a) _) (pl_le (n := 0) rfl (Nat.zero_le _)) ih) (by omega)
  | @ask k r b a _ ih =>
    unfold encB
    exact pl_le (pl3 (pl_le (n := 0) (by decide +kernel) (Nat.zero_le _)) (nm_pl (h2 _ a) _) ih) (by omega)
  | @see k f bs a l _ ih =>
    unfold encB
    rw [encBs_map]
    refine pl_le (pl3 (pl_le (n := 0) (by decide +kernel) (Nat.zero_le _)) (nm_pl (h3 _ a) _) (pl_t (n := 2 * k + 1) (by rw [List.length_map]; omega) fun x hx => ?_)) (by omega)
    obtain ⟨y, hy, rfl⟩ := List.mem_map.mp hx
    exact ih y hy
theorem row_pl {b : Bk} (hb : BkG b 13) (hn : b.n ≤ 4) : ∀ r ∈ b.rows, pl 30 (encRow r) = true := fun r hr => by
  have hm : ∀ f, f ∈ b.names → nmS f = true := fun f hf => by
    obtain ⟨r, hr, rfl⟩ := List.mem_map.mp hf
    exact (hb.ok.rows r hr).1
  unfold encRow
  exact pl_le (pl2 (nm_pl (hb.ok.rows r hr).1 _) (bd_pl hn (fun f c h => h.1) hm (fun f h => h) (hb.bp r hr))) (by decide)
theorem heads_pl {b : Bk} (hb : BkG b 13) (hl : b.heads.length ≤ 5) (n : Nat) : pl (n + 1) (.tup (b.heads.map U.str)) = true := pl_t (by rw [List.length_map]; omega) fun x hx => by
  obtain ⟨y, hy, rfl⟩ := List.mem_map.mp hx
  exact nm_pl (hb.ok.heads y hy) _
theorem rows_pl {b : Bk} (hb : BkG b 13) (hn : b.n ≤ 4) : pl 31 (.tup (b.rows.map encRow)) = true := pl_t (by rw [List.length_map]; have := hb.r8; omega) fun x hx => by
  obtain ⟨y, hy, rfl⟩ := List.mem_map.mp hx
  exact row_pl hb hn y hy
theorem book_pl {b : Bk} (hb : BkG b 13) (hn : b.n ≤ 4) (hl : b.heads.length ≤ 5) : pl 32 (encBk b) = true := by
  unfold encBk
  exact pl3 rfl (heads_pl hb hl 30) (rows_pl hb hn)
section
variable {C : CE} {nx bk ct : SU → Hm → Prop} {rt : QU} {M : Hm}
def SpoilP (C : CE) (f : Nat) : Prop := ∀ (M : Hm) (p : Addr × Addr) (b : Bk) (Q : QU), BkG b 13 → b.n ≤ 4 → b.heads.length ≤ 5 → Dr M p → (∀ u M', pl 50 u = true → Dr M' p → Fr p M M' → Q u M') → C f [.ref p.1, encBk b] M Q
end
end Pl.K1

set_option maxHeartbeats 2000000
/-! k01: a drawn book is a book; the law -/
namespace Pl.K1
open PySem L2
def B_law (law_due : Nat) (is_book : Nat) (law_spoil : Nat) (law_book : Nat) (law_begin : Nat) : S := (.seq (.asg 1 (.call law_begin (.cons (.var 0) .nil))) (.seq (.for_ (.one 2) (.iRange (.int 3)) (.seq (.asg 3 (.call law_book (.cons (.var 1) (.cons (.int 4) (.cons (.int 2) (.cons (.int 3) (.cons (.int 10) .nil))))))) (.seq (.ifs (.isB true true (.call is_book (.cons (.var 3) .nil))) (.seq (.ret (.bl false)) .skip) .skip) (.seq (.asg 4 (.call law_spoil (.cons (.var 1) (.cons (.var 3) .nil)))) (.seq (.asg 5 (.call is_book (.cons (.var 4) .nil))) (.seq (.ifs (.ors (.cons (.not (.isinst (.var 5) "bool")) (.cons (.cmp .ne (.var 5) (.call law_due (.cons (.var 4) .nil))) .nil))) (.seq (.ret (.bl false)) .skip) .skip) .skip)))))) (.seq (.ret (.bl true)) .skip)))
def szl (st : List (Bd × Nat)) : Nat := (st.map fun x => sz x.1).sum
theorem szs_sum : ∀ bs : List Bd, sz.szs bs = (bs.map sz).sum
  | [] => rfl
  | b :: bs => by
    show sz b + sz.szs bs = _
    rw [szs_sum bs, List.map_cons, List.sum_cons]
theorem sz_pos (b : Bd) : 1 ≤ sz b := by
  have := sz_kids b
  omega
theorem name_of {s : Str} (h : nmS s = true) : nameS s = true := by
  unfold nmS at h
  exact ((Bool.and_eq_true _ _).mp ((Bool.and_eq_true _ _).mp h).1).2
theorem next_enc {n : Nat} {ns : List Str} {pp : Str → Int → Prop} {ps : Str → Prop} (h1 : ∀ f c, pp f c → nmS f = true ∧ 0 ≤ c ∧ c < n) (h2 : ∀ f ∈ ns, nmS f = true) (h3 : ∀ f, ps f → nmS f = true) {j : Nat} {b : Bd} (h : BP (n + 1) pp (fun r => r ∈ ns) ps j b) :
    nextU n ns (encB b) = some ((kidsM b).map encB) ∧ ∀ x ∈ kidsM b, ∃ i, i + 1 ≤ j ∧ BP (n + 1) pp (fun r => r ∈ ns) ps i x := by
  cases h with
  | done => exact ⟨nx_done, fun _ z => nomatch z⟩
  | @put k f c b a hk =>
    obtain ⟨a1, a2, a3⟩ := h1 f c a
    unfold encB
    refine ⟨?_, fun x hx => by rw [List.mem_singleton.mp hx]; exact ⟨k, Nat.le_refl _, hk⟩⟩
    rw [nx_put, show nameU (.str f) = true from name_of a1, show putU n (.int c) = true by simp [putU, a2, a3]]
    rfl
  | @ask k r b a hk =>
    unfold encB
    refine ⟨?_, fun x hx => by rw [List.mem_singleton.mp hx]; exact ⟨k, Nat.le_refl _, hk⟩⟩
    rw [nx_ask, show nameU (.str r) = true from name_of (h2 r a), decide_eq_true (List.mem_map.mpr ⟨r, a, rfl⟩)]
    rfl
  | @see k f bs a l hk =>
    unfold encB
    rw [encBs_map]
    refine ⟨?_, fun x hx => ⟨k, Nat.le_refl _, hk x hx⟩⟩
    rw [nx_see, show nameU (.str f) = true from name_of (h3 f a), decide_eq_true (by rw [List.length_map]; exact l)]
    rfl
theorem chk_enc {n : Nat} {ns : List Str} {pp : Str → Int → Prop} {ps : Str → Prop} (h1 : ∀ f c, pp f c → nmS f = true ∧ 0 ≤ c ∧ c < n) (h2 : ∀ f ∈ ns, nmS f = true) (h3 : ∀ f, ps f → nmS f = true) :
    ∀ (f : Nat) (st : List (Bd × Nat)), szl st ≤ f → (∀ x ∈ st, ∃ j, BP (n + 1) pp (fun r => r ∈ ns) ps j x.1 ∧ x.2 + j ≤ 16) → chk n ns f (st.map fun x => (encB x.1, x.2)) = true
  | f, [], _, _ => chk_nil
  | 0, x :: st, hs, _ => by
    have := sz_pos x.1
    have : szl (x :: st) = sz x.1 + szl st := by unfold szl; rw [List.map_cons, List.sum_cons]
    omega
  | f + 1, x :: st, hs, hb => by
    obtain ⟨j, hj, hd⟩ := hb x List.mem_cons_self
    obtain ⟨e, hk⟩ := next_enc h1 h2 h3 hj
    have hz : szl (x :: st) = sz x.1 + szl st := by unfold szl; rw [List.map_cons, List.sum_cons]
    rw [List.map_cons, chk_some (x := (encB x.1, x.2)) (by show ¬ 16 < x.2; omega) e]
    have ih := chk_enc h1 h2 h3 f (((kidsM x.1).map fun b => (b, x.2 + 1)).reverse ++ st) ?_ ?_
    · rw [List.map_append, List.map_reverse, List.map_map] at ih
      rw [List.map_map]
      exact ih
    · have e2 : szl (((kidsM x.1).map fun b => (b, x.2 + 1)).reverse ++ st) = sz.szs (kidsM x.1) + szl st := by
        unfold szl
        rw [List.map_append, List.sum_append, List.map_reverse, List.sum_reverse, List.map_map, szs_sum]
        rfl
      have := sz_kids x.1
      omega
    · intro y hy
      rcases List.mem_append.mp hy with hy | hy
      · obtain ⟨b, hb', rfl⟩ := List.mem_map.mp (List.mem_reverse.mp hy)
        obtain ⟨i, hi, hbp⟩ := hk b hb'
        exact ⟨i, hbp, by show x.2 + 1 + i ≤ 16; omega⟩
      · exact hb y (List.mem_cons_of_mem _ hy)
theorem strs_str : ∀ l : List Str, strsU (l.map U.str) = l
  | [] => rfl
  | x :: l => by show x :: strsU (l.map U.str) = _; rw [strs_str l]
theorem book_true {b : Bk} (hb : BkG b 13) (hn : b.n ≤ 4) (hl : b.heads.length ≤ 5) : bookU (encBk b) = true := by
  have hm : ∀ f ∈ b.names, nmS f = true := fun f hf => by
    obtain ⟨r, hr, rfl⟩ := List.mem_map.mp hf
    exact (hb.ok.rows r hr).1
  have ef : (b.rows.map encRow).map fstU = b.names.map U.str := by
    unfold Bk.names
    rw [List.map_map, List.map_map]
    rfl
  have names : ∀ lo hi (l : List Str), lo ≤ l.length → l.length ≤ hi → (∀ x ∈ l, nmS x = true) → l.Nodup → namesU lo hi (.tup (l.map U.str)) = true := fun lo hi l g1 g2 g3 g4 => by
    show ((decide (lo ≤ (l.map U.str).length) && decide ((l.map U.str).length ≤ hi)) && ((l.map U.str).all nameU && decide (l.map U.str).Nodup)) = true
    rw [List.length_map, decide_eq_true g1, decide_eq_true g2, decide_eq_true (nd_str.mpr g4), Bool.and_true, Bool.true_and, Bool.and_true]
    refine List.all_eq_true.mpr fun x hx => ?_
    obtain ⟨y, hy, rfl⟩ := List.mem_map.mp hx
    exact name_of (g3 y hy)
  have hnl : b.names.length = b.rows.length := by unfold Bk.names; rw [List.length_map]
  have a1 : kindU (.int (b.n : Nat)) = true := by
    have := hb.ok.n0
    show (decide (1 ≤ ((b.n : Nat) : Int)) && decide (((b.n : Nat) : Int) ≤ 4)) = true
    rw [decide_eq_true (by omega), decide_eq_true (by omega)]
    rfl
  have a2 := names 0 5 b.heads (Nat.zero_le _) hl hb.ok.heads hb.hd
  have a3 : rulesU (.tup (b.rows.map encRow)) = true := by
    show ((decide (1 ≤ (b.rows.map encRow).length) && decide ((b.rows.map encRow).length ≤ 8)) && ((b.rows.map encRow).all pairU && namesU 1 8 (.tup ((b.rows.map encRow).map fstU)))) = true
    rw [List.length_map, decide_eq_true (show 1 ≤ b.rows.length from hb.r0), decide_eq_true hb.r8, ef, names 1 8 b.names (by rw [hnl]; exact hb.r0) (by rw [hnl]; exact hb.r8) hm hb.nd, Bool.and_true, Bool.true_and, Bool.and_true]
    refine List.all_eq_true.mpr fun x hx => ?_
    obtain ⟨y, hy, rfl⟩ := List.mem_map.mp hx
    rfl
  have a4 : bodU (.int (b.n : Nat)) (.tup (b.rows.map encRow)) = true := by
    show ((b.rows.map encRow).all fun r => chk ((b.n : Nat) : Int).toNat (strsU ((b.rows.map encRow).map fstU)) 120 [(sndU r, 1)]) = true
    rw [ef, strs_str, Int.toNat_natCast]
    refine List.all_eq_true.mpr fun x hx => ?_
    obtain ⟨r, hr, rfl⟩ := List.mem_map.mp hx
    have := hb.sz r hr
    exact chk_enc (pp := fun f c => nmS f = true ∧ 0 ≤ c ∧ c < b.n) (ps := fun f => nmS f = true) (fun f c h => h) hm (fun f h => h) 120 [(r.2, 1)] (by show sz r.2 + 0 ≤ 120; omega) fun y hy => by
      rw [List.mem_singleton.mp hy]
      exact ⟨13, hb.bp r hr, by show 1 + 13 ≤ 16; decide⟩
  show (kindU (.int (b.n : Nat)) && (namesU 0 5 (.tup (b.heads.map U.str)) && (rulesU (.tup (b.rows.map encRow)) && bodU (.int (b.n : Nat)) (.tup (b.rows.map encRow))))) = true
  rw [a1, a2, a3, a4]
  rfl
def DueP (C : CE) (f : Nat) : Prop := ∀ (M : Hm) (u : U) (Q : QU), pl 50 u = true → (∀ M', Sub M M' → Q (.bl (bookU u)) M') → C f [u] M Q
section
variable {C : CE} {nx bk ct : SU → Hm → Prop} {rt : QU} {M : Hm}
theorem law_p {fdue fis fsp fbk fbe : Nat} (hDue : DueP C fdue) (hIs : BookP C fis) (hSp : SpoilP C fsp) (hBk : BookC C fbk) {ns : List Int}
    (hB : ∀ Q : QU, (∀ (p : Addr × Addr) M0, Sub M M0 → Dr M0 p → Q (.ref p.1) M0) → C fbe [.rol (ns.map U.int)] M Q) (hq : ∀ M', rt (.bl true) M') :
    wS C (B_law fdue fis fsp fbk fbe) ⟨nx, rt, bk, ct⟩ (startU 6 [.rol (ns.map U.int)]) M := by
  have hlim : LIM = 100000 := rfl
  unfold B_law
  (repeat decreasing_trivial_pre_omega)
  refine hB _ fun p M0 s0 d0 => ?_
  (repeat decreasing_trivial_pre_omega)
  refine ⟨by omega, by omega, ?_⟩
  refine forL_nat (fun i σ M' => ∃ u2 u3 u4 u5, σ = [some (.rol (ns.map U.int)), some (.ref p.1), u2, u3, u4, u5] ∧ Dr M' p) 3 ⟨_, _, _, _, rfl, d0⟩ ?_ ?_
  · intro i σ M1 k hi ⟨u2, u3, u4, u5, e1, d1⟩ hk
    subst e1
    (repeat decreasing_trivial_pre_omega)
    refine hBk M1 p 4 2 3 10 _ (.inl rfl) (by decide) (by decide) (by decide) (by decide) (by decide) (by decide) d1 fun b M2 hb hn hl hr d2 f2 => ?_
    (repeat decreasing_trivial_pre_omega)
    refine hIs M2 (encBk b) _ (pl_le (book_pl hb hn (by omega)) (by decide)) fun M3 s3 => ?_
    rw [book_true hb hn (by omega)]
    (repeat decreasing_trivial_pre_omega)
    refine hSp M3 p b _ hb hn (by omega) (d2.sub s3) fun u M4 hu d4 f4 => ?_
    (repeat decreasing_trivial_pre_omega)
    refine hIs M4 u _ hu fun M5 s5 => ?_
    (repeat decreasing_trivial_pre_omega)
    refine hDue M5 u _ hu fun M6 s6 => ?_
    (repeat decreasing_trivial_pre_omega)
    exact hk _ _ trivial ⟨_, _, _, _, rfl, d4.sub (s5.trans s6)⟩
  · intro σ M1 ⟨u2, u3, u4, u5, e1, d1⟩
    subst e1
    (repeat decreasing_trivial_pre_omega)
    exact hq _
end
end Pl.K1

set_option maxHeartbeats 2000000
/-! k02: nodes and paths of a body, walked twice -/
namespace Pl.K2
open PySem L2
def B_limits_of : S := (.seq (.asg 1 (.lst (.cons (.tup (.cons (.var 0) (.cons (.int 1) .nil))) .nil))) (.seq (.asg 2 (.int 0)) (.seq (.asg 3 (.int 0)) (.seq (.whl (.var 1) (.seq (.asgT [4, 5] (.mth .pop (.var 1) .nil)) (.seq (.asg 2 (.bin .add (.var 2) (.int 1))) (.seq (.asg 3 (.blt .max (.cons (.var 3) (.cons (.var 5) .nil)))) (.seq (.ifs (.cmp .eq (.ix (.var 4) (.int 0)) (.str "see")) (.seq (.for_ (.one 6) (.iSeq (.ix (.var 4) (.int 2))) (.seq (.expr (.mth .append (.var 1) (.cons (.tup (.cons (.var 6) (.cons (.bin .add (.var 5) (.int 1)) .nil))) .nil))) .skip)) .skip) (.seq (.ifs (.cmp .ne (.ix (.var 4) (.int 0)) (.str "done")) (.seq (.expr (.mth .append (.var 1) (.cons (.tup (.cons (.ix (.var 4) (.bin .sub (.blt .len (.cons (.var 4) .nil)) (.int 1))) (.cons (.bin .add (.var 5) (.int 1)) .nil))) .nil))) .skip) .skip) .skip)) .skip))))) (.seq (.ret (.tup (.cons (.var 2) (.cons (.var 3) .nil)))) .skip)))))
def B_nodes_of (limits_of : Nat) : S := (.seq (.ret (.ix (.call limits_of (.cons (.var 0) .nil)) (.int 0))) .skip)
def B_law_deep (law_bodies_of : Nat) : S := (.seq (.asg 1 (.int 0)) (.seq (.asg 2 (.lst (.cons (.tup (.cons (.var 0) (.cons (.int 1) .nil))) .nil))) (.seq (.for_ (.one 3) (.iRange (.int 400)) (.seq (.ifs (.not (.var 2)) (.seq .brk .skip) .skip) (.seq (.asgT [4, 5] (.mth .pop (.var 2) .nil)) (.seq (.asg 1 (.blt .max (.cons (.var 1) (.cons (.var 5) .nil)))) (.seq (.expr (.mth .extend (.var 2) (.cons (.comp [("part", 6)] (.one 6) (.iSeq (.call law_bodies_of (.cons (.var 4) .nil))) .nil (.tup (.cons (.var 6) (.cons (.bin .add (.var 5) (.int 1)) .nil)))) .nil))) .skip))))) (.seq (.ret (.var 1)) .skip))))
def dep : Bd → Nat
  | .done => 0
  | .put _ _ b => 1 + dep b
  | .ask _ b => 1 + dep b
  | .see _ bs => deps bs
where deps : List Bd → Nat
  | [] => 0
  | b :: bs => max (1 + dep b) (deps bs)
theorem dep_kids (b : Bd) : dep b = dep.deps (kidsM b) := by
  cases b with
  | done => rfl
  | put f c b => show 1 + dep b = max (1 + dep b) 0; omega
  | ask r b => show 1 + dep b = max (1 + dep b) 0; omega
  | see f bs => rfl
def encD (x : Bd × Nat) : U := .tup [encB x.1, .int x.2]
def topl : List (Bd × Nat) → Nat
  | [] => 0
  | x :: l => max (x.2 + dep x.1) (topl l)
theorem topl_app : ∀ a b : List (Bd × Nat), topl (a ++ b) = max (topl a) (topl b)
  | [], b => by show topl b = max 0 (topl b); omega
  | x :: a, b => by
    show max (x.2 + dep x.1) (topl (a ++ b)) = max (max (x.2 + dep x.1) (topl a)) (topl b)
    rw [topl_app a b]
    omega
theorem topl_kids (d : Nat) : ∀ bs : List Bd, max d (topl (bs.map fun b => (b, d + 1))) = d + dep.deps bs
  | [] => by show max d 0 = d + 0; omega
  | b :: bs => by
    show max d (max (d + 1 + dep b) (topl (bs.map fun b => (b, d + 1)))) = d + max (1 + dep b) (dep.deps bs)
    have := topl_kids d bs
    omega
theorem szl_app (a b : List (Bd × Nat)) : K1.szl (a ++ b) = K1.szl a + K1.szl b := by
  unfold K1.szl
  rw [List.map_append, List.sum_append]
theorem szl_kids (d : Nat) (b : Bd) : K1.szl ((kidsM b).map fun x => (x, d)) + 1 = sz b := by
  rw [sz_kids, K1.szs_sum]
  unfold K1.szl
  rw [List.map_map, Nat.add_comm]
  rfl
theorem szl_len : ∀ st : List (Bd × Nat), st.length ≤ K1.szl st
  | [] => Nat.zero_le _
  | x :: st => by
    have := szl_len st
    have := K1.sz_pos x.1
    have e : K1.szl (x :: st) = sz x.1 + K1.szl st := by unfold K1.szl; rw [List.map_cons, List.sum_cons]
    rw [e, List.length_cons]
    omega
theorem szl_one (b : Bd) (d : Nat) : K1.szl [(b, d)] = sz b := by unfold K1.szl; simp
def LimC (C : CE) (f : Nat) : Prop := ∀ (M : Hm) (b : Bd) (Q : QU), sz b ≤ 50000 → (∀ M', Sub M M' → Q (.tup [.int (sz b : Nat), .int ((dep b + 1 : Nat) : Int)]) M') → C f [encB b] M Q
section
variable {C : CE} {nx bk ct : SU → Hm → Prop} {rt : QU} {M : Hm}
theorem limits_ok {b : Bd} (hb : sz b ≤ 50000) (hq : ∀ M', Sub M M' → rt (.tup [.int (sz b : Nat), .int ((dep b + 1 : Nat) : Int)]) M') : wS C B_limits_of ⟨nx, rt, bk, ct⟩ (startU 7 [encB b]) M := by
  have hlim : LIM = 100000 := rfl
  unfold B_limits_of
  (repeat decreasing_trivial_pre_omega)
  intro q q0
  (repeat decreasing_trivial_pre_omega)
  refine K1.z_whl' (W := fun m σ M' => ∃ (st : List (Bd × Nat)) (c l : Nat) (u4 u5 u6 : Option U), m = K1.szl st ∧ σ = [some (encB b), some (.ref q), some (.int (c : Nat)), some (.int (l : Nat)), u4, u5, u6] ∧ M' q = some (.lst (st.map encD)) ∧ Sub M M' ∧ c + K1.szl st = sz b ∧ max l (topl st) = dep b + 1)
    ⟨_, [(b, 1)], 0, 0, none, none, none, rfl, rfl, um_same, sub_um (Sub.refl _) q0, by rw [szl_one]; omega, by show max 0 (max (1 + dep b) 0) = _; omega⟩ ?_
  intro m σ M1 ⟨st, c, l, u4, u5, u6, em, e1, h1, s1, ec, el⟩
  subst em e1
  rcases List.eq_nil_or_concat st with rfl | ⟨li, x, rfl⟩
  · have h1' : M1 q = some (.lst []) := h1
    (repeat decreasing_trivial_pre_omega)
    have e1 : c = sz b := ec
    have e2 : l = dep b + 1 := by rw [← el]; show l = max l 0; omega
    subst e1 e2
    exact hq M1 s1
  · rw [List.concat_eq_append] at *
    obtain ⟨v, d⟩ := x
    have h1' : M1 q = some (.lst (li.map encD ++ [.tup [encB v, .int (d : Nat)]])) := by rw [h1, List.map_append]; rfl
    have hnn : ¬ li.map encD ++ [.tup [encB v, .int (d : Nat)]] = [] := by simp
    rw [szl_app, szl_one] at ec
    rw [topl_app] at el
    have el : max l (max (topl li) (max (d + dep v) 0)) = dep b + 1 := el
    have hls := szl_len li
    have hk := szl_kids (d + 1) v
    have ht := topl_kids d (kidsM v)
    rw [← dep_kids] at ht
    have hlen := szl_len ((kidsM v).map fun x => (x, d + 1))
    rw [List.length_map] at hlen
    (repeat decreasing_trivial_pre_omega)
    refine m_pop h1' (last_get _ _) ?_
    rw [List.dropLast_concat]
    have s2 : Sub M (um M1 q (.lst (li.map encD))) := sub_um s1 q0
    have h2 : (um M1 q (.lst (li.map encD))) q = some (.lst (li.map encD)) := um_same
    generalize um M1 q (.lst (li.map encD)) = M2 at *
    have fin : ∀ (M3 : Hm) (u6 : Option U), Sub M M3 → M3 q = some (.lst ((li ++ (kidsM v).map fun x => (x, d + 1)).map encD)) → ∃ m', m' < K1.szl (li ++ [(v, d)]) ∧ ∃ (st : List (Bd × Nat)) (c' l' : Nat) (w4 w5 w6 : Option U), m' = K1.szl st ∧
        [some (encB b), some (U.ref q), some (.int ((c : Nat) + 1)), some (.int (if (d : Int) > (l : Int) then (d : Int) else (l : Int))), some (encB v), some (.int (d : Nat)), u6] = [some (encB b), some (.ref q), some (.int (c' : Nat)), some (.int (l' : Nat)), w4, w5, w6] ∧ M3 q = some (.lst (st.map encD)) ∧ Sub M M3 ∧ c' + K1.szl st = sz b ∧ max l' (topl st) = dep b + 1 := by
      intro M3 u6 s3 h3
      refine ⟨_, ?_, li ++ (kidsM v).map fun x => (x, d + 1), c + 1, max l d, some (encB v), some (.int (d : Nat)), u6, rfl, ?_, h3, s3, ?_, ?_⟩
      · rw [szl_app, szl_app, szl_one]
        omega
      · have : (if (d : Int) > (l : Int) then (d : Int) else (l : Int)) = ((max l d : Nat) : Int) := by split <;> omega
        rw [this]
        rfl
      · rw [szl_app]
        omega
      · rw [topl_app]
        omega
    cases v with
    | done =>
      have enc_e : encB .done = U.tup [.str "done"] := by simp only [encB]
      rw [enc_e]
      (repeat decreasing_trivial_pre_omega)
      rw [← enc_e]
      exact fin M2 u6 s2 (by rw [h2]; simp [kidsM])
    | put f c' b' =>
      have enc_e : encB (.put f c' b') = U.tup [.str "put", .str f, .int c', encB b'] := by simp only [encB]
      rw [enc_e]
      (repeat decreasing_trivial_pre_omega)
      refine m_app h2 (by rw [List.length_map]; omega) ?_
      (repeat decreasing_trivial_pre_omega)
      rw [← enc_e]
      refine fin _ u6 (sub_um s2 q0) ?_
      rw [um_same, List.map_append]
      rfl
    | ask r b' =>
      have enc_e : encB (.ask r b') = U.tup [.str "ask", .str r, encB b'] := by simp only [encB]
      rw [enc_e]
      (repeat decreasing_trivial_pre_omega)
      refine m_app h2 (by rw [List.length_map]; omega) ?_
      (repeat decreasing_trivial_pre_omega)
      rw [← enc_e]
      refine fin _ u6 (sub_um s2 q0) ?_
      rw [um_same, List.map_append]
      rfl
    | see f bs =>
      have enc_e : encB (.see f bs) = U.tup [.str "see", .str f, .tup (bs.map encB)] := by simp only [encB, encBs_map]
      rw [enc_e]
      (repeat decreasing_trivial_pre_omega)
      have hlen : bs.length ≤ K1.szl ((kidsM (.see f bs)).map fun x => (x, d + 1)) := hlen
      refine forL_by (enc := encB) (fun don rest σ M' => ∃ u6, σ = [some (encB b), some (.ref q), some (.int ((c : Nat) + 1)), some (.int (if (d : Int) > (l : Int) then (d : Int) else (l : Int))), some (encB (.see f bs)), some (.int (d : Nat)), u6] ∧ Sub M M' ∧ M' q = some (.lst (li.map encD ++ don.map fun p => encD (p, d + 1)))) bs ⟨_, by rw [enc_e]; rfl, s2, by rw [h2]; simp⟩ ?_ ?_
      · intro don y rest σ M4 k ed ⟨u8', e1, s4, h4⟩ hk
        subst e1
        have hdl : don.length + rest.length + 1 = bs.length := by rw [← ed]; simp; omega
        (repeat decreasing_trivial_pre_omega)
        refine m_app h4 (by simp; omega) ?_
        (repeat decreasing_trivial_pre_omega)
        refine hk _ _ trivial ⟨_, rfl, sub_um s4 q0, ?_⟩
        rw [um_same]
        simp [encD]
      · intro σ M4 ⟨u8', e1, s4, h4⟩
        subst e1
        (repeat decreasing_trivial_pre_omega)
        refine fin M4 _ s4 ?_
        rw [h4, List.map_append, List.map_map]
        rfl
theorem nodes_of_ok {fl : Nat} (hl : LimC C fl) {b : Bd} (hb : sz b ≤ 50000) (hq : ∀ M', Sub M M' → rt (.int (sz b : Nat)) M') : wS C (B_nodes_of fl) ⟨nx, rt, bk, ct⟩ (startU 1 [encB b]) M := by
  unfold B_nodes_of
  (repeat decreasing_trivial_pre_omega)
  refine hl M b _ hb fun M' s => ?_
  (repeat decreasing_trivial_pre_omega)
  exact hq M' s
def NodC (C : CE) (f : Nat) : Prop := ∀ (M : Hm) (b : Bd) (Q : QU), sz b ≤ 50000 → (∀ M', Sub M M' → Q (.int (sz b : Nat)) M') → C f [encB b] M Q
theorem deep_ok {fk : Nat} (hk : KidsC C fk) {b : Bd} (hb : sz b ≤ 400) (hq : ∀ M', Sub M M' → rt (.int ((dep b + 1 : Nat) : Int)) M') : wS C (B_law_deep fk) ⟨nx, rt, bk, ct⟩ (startU 7 [encB b]) M := by
  have hlim : LIM = 100000 := rfl
  unfold B_law_deep
  (repeat decreasing_trivial_pre_omega)
  intro q q0
  (repeat decreasing_trivial_pre_omega)
  refine ⟨by omega, by omega, ?_⟩
  have fin0 : ∀ (l : Nat) M', Sub M M' → max l (topl []) = dep b + 1 → rt (.int (l : Nat)) M' := fun l M' s el => by
    have e2 : l = dep b + 1 := by rw [← el]; show l = max l 0; omega
    subst e2
    exact hq M' s
  refine forL_nat (fun i σ M' => ∃ (st : List (Bd × Nat)) (l : Nat) (u3 u4 u5 u6 : Option U), σ = [some (encB b), some (.int (l : Nat)), some (.ref q), u3, u4, u5, u6] ∧ M' q = some (.lst (st.map encD)) ∧ Sub M M' ∧ i + K1.szl st = sz b ∧ max l (topl st) = dep b + 1) 400
    ⟨[(b, 1)], 0, none, none, none, none, rfl, um_same, sub_um (Sub.refl _) q0, by rw [szl_one]; omega, by show max 0 (max (1 + dep b) 0) = _; omega⟩ ?_ ?_
  rotate_left
  · intro σ M1 ⟨st, l, u3, u4, u5, u6, e1, h1, s1, ec, el⟩
    subst e1
    have hst : st = [] := by
      have := szl_len st
      exact List.length_eq_zero_iff.mp (by omega)
    subst hst
    (repeat decreasing_trivial_pre_omega)
    exact fin0 l M1 s1 el
  intro i σ M1 k hi ⟨st, l, u3, u4, u5, u6, e1, h1, s1, ec, el⟩ hkk
  subst e1
  rcases List.eq_nil_or_concat st with rfl | ⟨li, x, rfl⟩
  · have h1' : M1 q = some (.lst []) := h1
    (repeat decreasing_trivial_pre_omega)
    exact fin0 l M1 s1 el
  · rw [List.concat_eq_append] at *
    obtain ⟨v, d⟩ := x
    have h1' : M1 q = some (.lst (li.map encD ++ [.tup [encB v, .int (d : Nat)]])) := by rw [h1, List.map_append]; rfl
    have hnn : ¬ li.map encD ++ [.tup [encB v, .int (d : Nat)]] = [] := by simp
    rw [szl_app, szl_one] at ec
    rw [topl_app] at el
    have el : max l (max (topl li) (max (d + dep v) 0)) = dep b + 1 := el
    have hls := szl_len li
    have hks := szl_kids (d + 1) v
    have ht := topl_kids d (kidsM v)
    rw [← dep_kids] at ht
    have hlen := szl_len ((kidsM v).map fun x => (x, d + 1))
    rw [List.length_map] at hlen
    (repeat decreasing_trivial_pre_omega)
    refine m_pop h1' (last_get _ _) ?_
    rw [List.dropLast_concat]
    have s2 : Sub M (um M1 q (.lst (li.map encD))) := sub_um s1 q0
    have h2 : (um M1 q (.lst (li.map encD))) q = some (.lst (li.map encD)) := um_same
    generalize um M1 q (.lst (li.map encD)) = M2 at *
    (repeat decreasing_trivial_pre_omega)
    refine hk _ _ _ fun y M3 hy s3 h3 => ?_
    have g3 := s3 _ _ h2
    have hyq : q ≠ y := ne_of_old h2 hy
    (repeat decreasing_trivial_pre_omega)
    refine compL_by (enc := encB) (fun don rest acc M' => M' = M3 ∧ acc = don.map fun p => encD (p, d + 1)) (kidsM v) ⟨rfl, rfl⟩ ?_ ?_
    · intro don z rest acc M4 k2 ed ⟨e1, e2⟩ hk2
      subst e1 e2
      have hdl : don.length + rest.length + 1 = (kidsM v).length := by rw [← ed]; simp; omega
      (repeat decreasing_trivial_pre_omega)
      exact hk2 _ _ h3 (fun _ => by rw [List.length_map]; omega) ⟨rfl, by simp [encD]⟩
    · intro acc M4 ⟨e1, e2⟩
      subst e1 e2
      intro t ht0
      have hqt := ne_of_old g3 ht0
      (repeat decreasing_trivial_pre_omega)
      refine m_ext (um_old g3 ht0) um_same (by rw [List.length_map, List.length_map]; omega) ?_
      (repeat decreasing_trivial_pre_omega)
      have : (if (d : Int) > (l : Int) then (d : Int) else (l : Int)) = ((max l d : Nat) : Int) := by split <;> omega
      rw [this]
      refine hkk _ _ trivial ⟨li ++ (kidsM v).map fun x => (x, d + 1), max l d, _, _, _, _, rfl, ?_, sub_um (sub_new ((s2.trans s3)) ht0) q0, ?_, ?_⟩
      · rw [um_same, List.map_append, List.map_map]
        rfl
      · rw [szl_app]
        omega
      · rw [topl_app]
        omega
def DeepC (C : CE) (f : Nat) : Prop := ∀ (M : Hm) (b : Bd) (Q : QU), sz b ≤ 400 → (∀ M', Sub M M' → Q (.int ((dep b + 1 : Nat) : Int)) M') → C f [encB b] M Q
end
end Pl.K2

set_option maxHeartbeats 2000000
/-! k02: bodies of rules, other bodies; worlds -/
namespace Pl.K2
open PySem L2
def B_body_of : S := (.seq (.for_ (.many [2, 3]) (.iSeq (.ix (.var 0) (.int 2))) (.seq (.ifs (.cmp .eq (.var 2) (.var 1)) (.seq (.ret (.var 3)) .skip) .skip) .skip)) (.seq (.raise1 "NoRule" "name" (.var 1)) .skip))
def B_with_body (is_book : Nat) (body_of : Nat) : S := (.seq (.expr (.callX body_of (.cons (.var 0) (.cons (.var 1) .nil)))) (.seq (.asg 3 (.blt .tuple (.cons (.comp [("name", 4), ("old", 5)] (.many [4, 5]) (.iSeq (.ix (.var 0) (.int 2))) .nil (.tup (.cons (.var 4) (.cons (.ite (.cmp .eq (.var 4) (.var 1)) (.var 2) (.var 5)) .nil)))) .nil))) (.seq (.asg 6 (.tup (.cons (.ix (.var 0) (.int 0)) (.cons (.ix (.var 0) (.int 1)) (.cons (.var 3) .nil))))) (.seq (.ifs (.not (.call is_book (.cons (.var 6) .nil))) (.seq (.raise1 "BadBody" "rule" (.var 1)) .skip) .skip) (.seq (.ret (.var 6)) .skip)))))
def B_count_worlds : S := (.seq (.asg 1 (.int 1)) (.seq (.for_ (.one 2) (.iRange (.blt .len (.cons (.ix (.var 0) (.int 1)) .nil))) (.seq (.asg 1 (.bin .mul (.var 1) (.bin .add (.ix (.var 0) (.int 0)) (.int 1)))) .skip)) (.seq (.ret (.var 1)) .skip)))
def B_worlds (count_worlds : Nat) : S := (.seq (.ifs (.cmp .gt (.call count_worlds (.cons (.var 0) .nil)) (.gint "MOST_WORLDS" (400))) (.seq (.raise1 "TooMany" "limit" (.gint "MOST_WORLDS" (400))) .skip) .skip) (.seq (.asg 1 (.lst (.cons (.tup .nil) .nil))) (.seq (.for_ (.one 2) (.iRange (.blt .len (.cons (.ix (.var 0) (.int 1)) .nil))) (.seq (.asg 1 (.comp2 [("world", 3), ("content", 4)] (.one 3) (.iSeq (.var 1)) (.one 4) (.iRange2 (.neg (.int 1)) (.ix (.var 0) (.int 0))) .nil (.bin .add (.var 3) (.tup (.cons (.var 4) .nil))))) .skip)) (.seq (.ret (.blt .tuple (.cons (.var 1) .nil))) .skip))))
def B_law_many_worlds : S := (.seq (.asg 1 (.int 1)) (.seq (.for_ (.one 2) (.iSeq (.ix (.var 0) (.int 1))) (.seq (.asg 1 (.bin .mul (.var 1) (.bin .add (.ix (.var 0) (.int 0)) (.int 1)))) .skip)) (.seq (.ret (.var 1)) .skip)))
def B_law_longer : S := (.seq (.asg 2 (.lst .nil)) (.seq (.for_ (.one 3) (.iSeq (.var 0)) (.seq (.expr (.mth .extend (.var 2) (.cons (.comp [("content", 4)] (.one 4) (.iRange2 (.neg (.int 1)) (.var 1)) .nil (.bin .add (.var 3) (.tup (.cons (.var 4) .nil)))) .nil))) .skip)) (.seq (.ret (.var 2)) .skip)))
def B_law_worlds (law_longer : Nat) : S := (.seq (.asg 1 (.lst (.cons (.tup .nil) .nil))) (.seq (.for_ (.one 2) (.iSeq (.ix (.var 0) (.int 1))) (.seq (.asg 1 (.call law_longer (.cons (.var 1) (.cons (.ix (.var 0) (.int 0)) .nil)))) .skip)) (.seq (.ret (.var 1)) .skip)))
def B_law_with_body : S := (.seq (.ret (.tup (.cons (.ix (.var 0) (.int 0)) (.cons (.ix (.var 0) (.int 1)) (.cons (.blt .tuple (.cons (.comp [("row", 3)] (.one 3) (.iSeq (.ix (.var 0) (.int 2))) .nil (.ite (.cmp .eq (.ix (.var 3) (.int 0)) (.var 1)) (.tup (.cons (.ix (.var 3) (.int 0)) (.cons (.var 2) .nil))) (.var 3))) .nil)) .nil))))) .skip)
def withB (b : Bk) (r : Str) (bd : Bd) : Bk := { b with rows := b.rows.map fun x => if x.1 = r then (x.1, bd) else x }
def BodyOfX (C : CE) (f : Nat) : Prop := ∀ (M : Hm) (b : Bk) (r : Str) (Q : QU) (E : XU), r.length ≤ 1000 → (∀ bd, kfind b.rows r = some bd → ∀ M', Sub M M' → Q (encB bd) M') →
  (kfind b.rows r = none → ∀ d M', Sub M M' → M' d = some (.exd [("name", .str r)]) → E "NoRule" (some d) M') → C.x f [encBk b, .str r] M Q E
def WithX (C : CE) (f : Nat) : Prop := ∀ (M : Hm) (b : Bk) (r : Str) (bd : Bd) (Q : QU) (E : XU), r.length ≤ 1000 → b.rows.length ≤ 1000 → K1.pl 50 (encBk (withB b r bd)) = true →
  ((kfind b.rows r).isSome = true → K1.bookU (encBk (withB b r bd)) = true → ∀ M', Sub M M' → Q (encBk (withB b r bd)) M') →
  ((kfind b.rows r).isSome = true → K1.bookU (encBk (withB b r bd)) = false → ∀ d M', Sub M M' → M' d = some (.exd [("rule", .str r)]) → E "BadBody" (some d) M') →
  (kfind b.rows r = none → ∀ d M', Sub M M' → M' d = some (.exd [("name", .str r)]) → E "NoRule" (some d) M') → C.x f [encBk b, .str r, encB bd] M Q E
def encWd (w : List Int) : U := .tup (w.map U.int)
def longT (n : Nat) (ws : List (List Int)) : List (List Int) := ws.flatMap fun w => (List.range (n + 1)).map fun i => w ++ [(-1 : Int) + (i : Nat)]
def worldsT (n : Nat) : Nat → List (List Int)
  | 0 => [[]]
  | k + 1 => longT n (worldsT n k)
theorem longT_len (n : Nat) (ws : List (List Int)) : (longT n ws).length = ws.length * (n + 1) := by
  unfold longT
  induction ws with
  | nil => simp
  | cons w ws ih => rw [List.flatMap_cons, List.length_append, ih]; simp [Nat.succ_mul]; omega
theorem worldsT_len (n k : Nat) : (worldsT n k).length = (n + 1) ^ k := by
  induction k with
  | zero => rfl
  | succ k ih => rw [worldsT, longT_len, ih, Nat.pow_succ]
theorem worldsT_mem {n k : Nat} {w : List Int} (h : w ∈ worldsT n k) : w.length = k := by
  induction k generalizing w with
  | zero =>
    have : w = [] := by simpa [worldsT] using h
    subst this
    rfl
  | succ k ih =>
    unfold worldsT longT at h
    obtain ⟨v, hv, h⟩ := List.mem_flatMap.mp h
    obtain ⟨i, hi, rfl⟩ := List.mem_map.mp h
    rw [List.length_append, ih hv]
    rfl
theorem rngU_m1 (n : Nat) : rngU (-1) (n : Int) = (List.range (n + 1)).map fun i : Nat => U.int ((-1 : Int) + (i : Nat)) := by
  unfold rngU
  rw [show ((n : Int) - -1).toNat = n + 1 by omega]
theorem pow_mono {a k l : Nat} (h : k ≤ l) : (a + 1) ^ k ≤ (a + 1) ^ l := Nat.pow_le_pow_right (Nat.succ_pos a) h
def LongC (C : CE) (f : Nat) : Prop := ∀ (M : Hm) (q : Addr) (ws : List (List Int)) (n : Nat) (Q : QU), M q = some (.lst (ws.map encWd)) → ws.length * (n + 1) ≤ 50000 → n < 100 → (∀ w ∈ ws, w.length ≤ 1000) → (∀ r M', M r = none → Sub M M' → M' r = some (.lst ((longT n ws).map encWd)) → Q (.ref r) M') → C f [.ref q, .int n] M Q
def LWorldsC (C : CE) (f : Nat) : Prop := ∀ (M : Hm) (b : Bk) (Q : QU), (b.n + 1) ^ b.heads.length ≤ 50000 → b.n < 100 → b.heads.length ≤ 1000 → (∀ r M', Sub M M' → M' r = some (.lst ((worldsT b.n b.heads.length).map encWd)) → Q (.ref r) M') → C f [encBk b] M Q
def ManyC (C : CE) (f : Nat) : Prop := ∀ (M : Hm) (b : Bk) (Q : QU), (b.n + 1) ^ b.heads.length ≤ 50000 → b.n < 100 → b.heads.length ≤ 1000 → Q (.int (((b.n + 1) ^ b.heads.length : Nat) : Int)) M → C f [encBk b] M Q
def WorldsX (C : CE) (f : Nat) : Prop := ∀ (M : Hm) (b : Bk) (Q : QU) (E : XU), (b.n + 1) ^ b.heads.length ≤ 50000 → b.n < 100 → b.heads.length ≤ 1000 →
  ((b.n + 1) ^ b.heads.length ≤ 400 → ∀ M', Sub M M' → Q (.tup ((worldsT b.n b.heads.length).map encWd)) M') →
  (400 < (b.n + 1) ^ b.heads.length → ∀ d M', Sub M M' → M' d = some (.exd [("limit", .int 400)]) → E "TooMany" (some d) M') → C.x f [encBk b] M Q E
def LWithC (C : CE) (f : Nat) : Prop := ∀ (M : Hm) (b : Bk) (r : Str) (bd : Bd) (Q : QU), b.rows.length ≤ 1000 → (∀ M', Sub M M' → Q (encBk (withB b r bd)) M') → C f [encBk b, .str r, encB bd] M Q
section
variable {C : CE} {nx bk ct : SU → Hm → Prop} {rt : QU} {M : Hm}
theorem body_of_ok {b : Bk} {r : Str} (hr : r.length ≤ 1000) (hq : ∀ bd, kfind b.rows r = some bd → ∀ M', Sub M M' → rt (encB bd) M')
    (hE : kfind b.rows r = none → ∀ d σ M', Sub M M' → M' d = some (.exd [("name", .str r)]) → C.xc "NoRule" (some d) σ M') : wS C B_body_of ⟨nx, rt, bk, ct⟩ (startU 4 [encBk b, .str r]) M := by
  unfold B_body_of encBk
  (repeat decreasing_trivial_pre_omega)
  refine forL_by (enc := encRow) (fun don rest σ M' => ∃ u2 u3, σ = [some (encBk b), some (.str r), u2, u3] ∧ M' = M ∧ kfind b.rows r = kfind rest r) b.rows ⟨none, none, rfl, rfl, rfl⟩ ?_ ?_
  · intro don x rest σ M1 k e ⟨u2, u3, e1, e2, e3⟩ hk
    subst e1 e2
    unfold encRow
    (repeat decreasing_trivial_pre_omega)
    refine i_ifd (fun h => ?_) (fun h => ?_)
    · (repeat decreasing_trivial_pre_omega)
      exact hq x.2 (by rw [e3, kfind_cons, if_pos h]) _ (Sub.refl _)
    · (repeat decreasing_trivial_pre_omega)
      exact hk _ _ trivial ⟨_, _, rfl, rfl, by rw [e3, kfind_cons, if_neg h]⟩
  · intro σ M1 ⟨u2, u3, e1, e2, e3⟩
    subst e1 e2
    (repeat decreasing_trivial_pre_omega)
    exact ⟨hr, fun d hd => hE e3 d _ _ (sub_um (Sub.refl _) hd) um_same⟩
theorem with_body_ok {fi fb : Nat} (hI : K1.BookP C fi) (hB : BodyOfX C fb) {b : Bk} {r : Str} {bd : Bd} (hr : r.length ≤ 1000) (hl : b.rows.length ≤ 1000) (hp : K1.pl 50 (encBk (withB b r bd)) = true)
    (hq : (kfind b.rows r).isSome = true → K1.bookU (encBk (withB b r bd)) = true → ∀ M', Sub M M' → rt (encBk (withB b r bd)) M')
    (hE1 : (kfind b.rows r).isSome = true → K1.bookU (encBk (withB b r bd)) = false → ∀ d σ M', Sub M M' → M' d = some (.exd [("rule", .str r)]) → C.xc "BadBody" (some d) σ M')
    (hE0 : kfind b.rows r = none → ∀ d σ M', Sub M M' → M' d = some (.exd [("name", .str r)]) → C.xc "NoRule" (some d) σ M') : wS C (B_with_body fi fb) ⟨nx, rt, bk, ct⟩ (startU 7 [encBk b, .str r, encB bd]) M := by
  have hlim : LIM = 100000 := rfl
  unfold B_with_body
  (repeat decreasing_trivial_pre_omega)
  refine hB M b r _ _ hr (fun bd0 e0 M1 s1 => ?_) fun e d M' s h => hE0 e d _ M' s h
  have hs : (kfind b.rows r).isSome = true := by rw [e0]; rfl
  unfold encBk
  (repeat decreasing_trivial_pre_omega)
  refine compL_by (enc := encRow) (fun don rest acc M' => M' = M1 ∧ acc = don.map fun x => encRow (if x.1 = r then (x.1, bd) else x)) b.rows ⟨rfl, rfl⟩ ?_ ?_
  · intro don x rest acc M2 k ed ⟨e1, e2⟩ hk
    subst e1 e2
    have hdl : don.length + rest.length + 1 = b.rows.length := by rw [← ed]; simp; omega
    unfold encRow
    (repeat decreasing_trivial_pre_omega)
    refine i_ifd (fun h => ?_) (fun h => ?_)
    · (repeat decreasing_trivial_pre_omega)
      exact hk _ _ trivial (fun _ => by rw [List.length_map]; omega) ⟨rfl, by simp [h, encRow]⟩
    · (repeat decreasing_trivial_pre_omega)
      exact hk _ _ trivial (fun _ => by rw [List.length_map]; omega) ⟨rfl, by simp [h, encRow]⟩
  · intro acc M2 ⟨e1, e2⟩
    subst e1 e2
    intro q q0
    (repeat decreasing_trivial_pre_omega)
    have eb : U.tup [.int b.n, .tup (b.heads.map U.str), .tup (b.rows.map fun x => encRow (if x.1 = r then (x.1, bd) else x))] = encBk (withB b r bd) := by
      unfold encBk withB
      rw [List.map_map]
      rfl
    rw [eb]
    have s2 : Sub M (um M2 q (.lst (b.rows.map fun x => encRow (if x.1 = r then (x.1, bd) else x)))) := sub_um s1 (by cases hM : M q with | none => rfl | some o => rw [s1 _ _ hM] at q0; cases q0)
    refine hI _ _ _ hp fun M3 s3 => ?_
    cases hb : K1.bookU (encBk (withB b r bd)) with
    | true =>
      (repeat decreasing_trivial_pre_omega)
      exact hq hs hb M3 (s2.trans s3)
    | false =>
      (repeat decreasing_trivial_pre_omega)
      exact ⟨hr, fun d hd => hE1 hs hb d _ _ (sub_um (s2.trans s3) (by cases hM : M d with | none => rfl | some o => rw [(s2.trans s3) _ _ hM] at hd; cases hd)) um_same⟩
theorem count_ok {b : Bk} (hB : (b.n + 1) ^ b.heads.length ≤ 50000) (hn : b.n < 100) (hh : b.heads.length ≤ 1000) (hq : rt (.int (((b.n + 1) ^ b.heads.length : Nat) : Int)) M) : wS C B_count_worlds ⟨nx, rt, bk, ct⟩ (startU 3 [encBk b]) M := by
  have hlim : LIM = 100000 := rfl
  unfold B_count_worlds encBk
  (repeat decreasing_trivial_pre_omega)
  rw [List.length_map]
  refine ⟨by omega, by omega, ?_⟩
  refine forL_nat (fun i σ M' => ∃ u2, σ = [some (encBk b), some (.int (((b.n + 1) ^ i : Nat) : Int)), u2] ∧ M' = M) b.heads.length ⟨none, rfl, rfl⟩ ?_ ?_
  · intro i σ M1 k hi ⟨u2, e1, e2⟩ hk
    subst e1 e2
    have := pow_mono (a := b.n) (show i ≤ b.heads.length by omega)
    generalize hg : (b.n + 1) ^ i = g at *
    have e3 : ((b.n + 1) ^ (i + 1) : Nat) = g * (b.n + 1) := by rw [Nat.pow_succ, hg]
    unfold encBk
    (repeat decreasing_trivial_pre_omega)
    refine hk _ _ trivial ⟨some (.int (i : Nat)), ?_, rfl⟩
    rw [e3, Int.natCast_mul]
    rfl
  · intro σ M1 ⟨u2, e1, e2⟩
    subst e1 e2
    (repeat decreasing_trivial_pre_omega)
    exact hq
theorem many_ok {b : Bk} (hB : (b.n + 1) ^ b.heads.length ≤ 50000) (hn : b.n < 100) (hh : b.heads.length ≤ 1000) (hq : rt (.int (((b.n + 1) ^ b.heads.length : Nat) : Int)) M) : wS C B_law_many_worlds ⟨nx, rt, bk, ct⟩ (startU 3 [encBk b]) M := by
  have hlim : LIM = 100000 := rfl
  unfold B_law_many_worlds encBk
  (repeat decreasing_trivial_pre_omega)
  refine forL_by (enc := U.str) (fun don rest σ M' => ∃ u2, σ = [some (encBk b), some (.int (((b.n + 1) ^ don.length : Nat) : Int)), u2] ∧ M' = M) b.heads ⟨none, rfl, rfl⟩ ?_ ?_
  · intro don x rest σ M1 k e ⟨u2, e1, e2⟩ hk
    subst e1 e2
    have hdl : don.length + rest.length + 1 = b.heads.length := by rw [← e]; simp; omega
    have := pow_mono (a := b.n) (show don.length ≤ b.heads.length by omega)
    have e4 : (don ++ [x]).length = don.length + 1 := by simp
    generalize hg : (b.n + 1) ^ don.length = g at *
    have e3 : ((b.n + 1) ^ (don ++ [x]).length : Nat) = g * (b.n + 1) := by rw [e4, Nat.pow_succ, hg]
    unfold encBk
    (repeat decreasing_trivial_pre_omega)
    refine hk _ _ trivial ⟨some (.str x), ?_, rfl⟩
    rw [e3, Int.natCast_mul]
    rfl
  · intro σ M1 ⟨u2, e1, e2⟩
    subst e1 e2
    (repeat decreasing_trivial_pre_omega)
    exact hq
theorem longer_ok {q : Addr} {ws : List (List Int)} {n : Nat} (hm : M q = some (.lst (ws.map encWd))) (hb : ws.length * (n + 1) ≤ 50000) (hn : n < 100) (hw : ∀ w ∈ ws, w.length ≤ 1000)
    (hq : ∀ r M', M r = none → Sub M M' → M' r = some (.lst ((longT n ws).map encWd)) → rt (.ref r) M') : wS C B_law_longer ⟨nx, rt, bk, ct⟩ (startU 5 [.ref q, .int n]) M := by
  have hlim : LIM = 100000 := rfl
  unfold B_law_longer
  (repeat decreasing_trivial_pre_omega)
  intro r hr
  have hqr := ne_of_old hm hr
  (repeat decreasing_trivial_pre_omega)
  refine forL_by (enc := encWd) (fun don rest σ M' => (∃ u3 u4, σ = [some (.ref q), some (.int n), some (.ref r), u3, u4]) ∧ M' r = some (.lst ((longT n don).map encWd)) ∧ M' q = some (.lst (ws.map encWd)) ∧ Sub M M') ws ⟨⟨_, _, rfl⟩, um_same, um_old hm hr, sub_new (Sub.refl _) hr⟩ ?_ ?_
  · intro don w rest σ M1 k e ⟨⟨u3, u4, e1⟩, e2, e3, e4⟩ hk
    subst e1
    have hdl : don.length + rest.length + 1 = ws.length := by rw [← e]; simp; omega
    have hdb : (don.length + 1) * (n + 1) ≤ 50000 := Nat.le_trans (Nat.mul_le_mul_right _ (by omega)) hb
    rw [Nat.succ_mul] at hdb
    unfold encWd
    (repeat decreasing_trivial_pre_omega)
    refine ⟨by omega, by omega, by omega, by omega, ?_⟩
    rw [rngU_m1]
    refine compL_by (enc := fun i : Nat => U.int ((-1 : Int) + (i : Nat))) (fun don2 rest2 acc M' => M' = M1 ∧ acc = don2.map fun i : Nat => encWd (w ++ [(-1 : Int) + (i : Nat)])) (List.range (n + 1)) ⟨rfl, rfl⟩ ?_ ?_
    · intro don2 i rest2 acc M2 k2 e' ⟨f1, f2⟩ hk2
      subst f1 f2
      have h2l : don2.length + rest2.length + 1 = n + 1 := by rw [← List.length_range (n := n + 1), ← e']; simp; omega
      (repeat decreasing_trivial_pre_omega)
      refine o_addT ?_ ?_
      · have := hw w (by rw [← e]; simp)
        rw [List.length_map]
        simp
        omega
      (repeat decreasing_trivial_pre_omega)
      refine hk2 _ _ trivial (fun _ => by rw [List.length_map]; omega) ⟨rfl, ?_⟩
      simp [encWd]
    · intro acc M2 ⟨f1, f2⟩
      subst f1 f2
      intro t ht
      have nrt := ne_of_old e2 ht
      (repeat decreasing_trivial_pre_omega)
      refine m_ext (um_old e2 ht) um_same ?_ ?_
      · rw [List.length_map, longT_len, List.length_map, List.length_range]; omega
      (repeat decreasing_trivial_pre_omega)
      refine hk _ _ (um_oth hqr (um_old e3 ht)) ⟨⟨_, _, rfl⟩, ?_, um_oth hqr (um_old e3 ht), sub_um (sub_new e4 ht) hr⟩
      rw [um_same]
      unfold longT
      rw [List.flatMap_append]
      simp [Function.comp]
  · intro σ M1 ⟨⟨u3, u4, e1⟩, e2, e3, e4⟩
    subst e1
    (repeat decreasing_trivial_pre_omega)
    exact hq r M1 hr e4 e2
theorem lworlds_ok {fl : Nat} (hl : LongC C fl) {b : Bk} (hB : (b.n + 1) ^ b.heads.length ≤ 50000) (hn : b.n < 100) (hh : b.heads.length ≤ 1000)
    (hq : ∀ r M', Sub M M' → M' r = some (.lst ((worldsT b.n b.heads.length).map encWd)) → rt (.ref r) M') : wS C (B_law_worlds fl) ⟨nx, rt, bk, ct⟩ (startU 3 [encBk b]) M := by
  unfold B_law_worlds
  (repeat decreasing_trivial_pre_omega)
  intro r hr
  unfold encBk
  (repeat decreasing_trivial_pre_omega)
  refine forL_by (enc := U.str) (fun don rest σ M' => ∃ r u2, σ = [some (encBk b), some (.ref r), u2] ∧ M' r = some (.lst ((worldsT b.n don.length).map encWd)) ∧ Sub M M') b.heads ⟨r, _, rfl, um_same, sub_new (Sub.refl _) hr⟩ ?_ ?_
  · intro don w rest σ M1 k e ⟨r1, u2, e1, e2, e3⟩ hk
    subst e1
    have hdl : don.length + rest.length + 1 = b.heads.length := by rw [← e]; simp; omega
    unfold encBk
    (repeat decreasing_trivial_pre_omega)
    refine hl M1 r1 _ b.n _ e2 ?_ hn (fun w hw => by have := worldsT_mem hw; omega) fun r2 M2 hr2 s2 h2 => ?_
    · rw [worldsT_len, ← Nat.pow_succ]
      exact Nat.le_trans (pow_mono (by omega)) hB
    (repeat decreasing_trivial_pre_omega)
    refine hk _ _ trivial ⟨r2, _, rfl, ?_, e3.trans s2⟩
    rw [List.length_append]
    exact h2
  · intro σ M1 ⟨r1, u2, e1, e2, e3⟩
    subst e1
    (repeat decreasing_trivial_pre_omega)
    exact hq r1 M1 e3 e2
theorem worlds_ok {fc : Nat} (hC : ManyC C fc) {b : Bk} (hB : (b.n + 1) ^ b.heads.length ≤ 50000) (hn : b.n < 100) (hh : b.heads.length ≤ 1000)
    (hq : (b.n + 1) ^ b.heads.length ≤ 400 → ∀ M', Sub M M' → rt (.tup ((worldsT b.n b.heads.length).map encWd)) M')
    (hE : 400 < (b.n + 1) ^ b.heads.length → ∀ d σ M', Sub M M' → M' d = some (.exd [("limit", .int 400)]) → C.xc "TooMany" (some d) σ M') : wS C (B_worlds fc) ⟨nx, rt, bk, ct⟩ (startU 5 [encBk b]) M := by
  have hlim : LIM = 100000 := rfl
  unfold B_worlds
  (repeat decreasing_trivial_pre_omega)
  refine hC M b _ hB hn hh ?_
  (repeat decreasing_trivial_pre_omega)
  by_cases h : 400 < (b.n + 1) ^ b.heads.length
  · have h' : (400 : Int) < (((b.n + 1) ^ b.heads.length : Nat) : Int) := by omega
    (repeat decreasing_trivial_pre_omega)
    exact ⟨by show (400 : Int).natAbs < 10 ^ 18; decide, fun d hd => hE h d _ _ (sub_um (Sub.refl _) hd) um_same⟩
  have h' : ¬ (400 : Int) < (((b.n + 1) ^ b.heads.length : Nat) : Int) := by omega
  have h4 : (b.n + 1) ^ b.heads.length ≤ 400 := by omega
  (repeat decreasing_trivial_pre_omega)
  intro r hr
  unfold encBk
  (repeat decreasing_trivial_pre_omega)
  rw [List.length_map]
  refine ⟨by omega, by omega, ?_⟩
  refine forL_nat (fun i σ M' => ∃ r u2 u3 u4, σ = [some (encBk b), some (.ref r), u2, u3, u4] ∧ M' r = some (.lst ((worldsT b.n i).map encWd)) ∧ Sub M M') b.heads.length ⟨r, _, _, _, rfl, um_same, sub_new (Sub.refl _) hr⟩ ?_ ?_
  · intro i σ M1 k hi ⟨r1, u2, u3, u4, e1, e2, e3⟩ hk
    subst e1
    have hpw : (b.n + 1) ^ (i + 1) ≤ 400 := Nat.le_trans (pow_mono (by omega)) h4
    rw [← worldsT_len, worldsT, longT_len] at hpw
    have hwl : ∀ w ∈ worldsT b.n i, w.length ≤ 1000 := fun w hw => by have := worldsT_mem hw; omega
    have hstep : worldsT b.n (i + 1) = longT b.n (worldsT b.n i) := rfl
    generalize worldsT b.n i = W at *
    (repeat decreasing_trivial_pre_omega)
    intro t ht
    have hrt := ne_of_old e2 ht
    have hMt : M t = none := by cases hM : M t with | none => rfl | some o => rw [e3 _ _ hM] at ht; cases ht
    refine ⟨um_old e2 ht, ?_⟩
    refine dcompL_by (enc := encWd) (fun don rest M' => M' t = some (.lst ((longT b.n don).map encWd)) ∧ M' r1 = some (.lst (W.map encWd)) ∧ Sub M M') W ⟨um_same, um_old e2 ht, sub_um e3 hMt⟩ ?_ ?_
    · intro don w rest M2 k2 ed ⟨f1, f2, f3⟩ hk2
      have hdl : don.length + rest.length + 1 = W.length := by rw [← ed]; simp; omega
      have hdb : (don.length + 1) * (b.n + 1) ≤ 400 := Nat.le_trans (Nat.mul_le_mul_right _ (by omega)) hpw
      rw [Nat.succ_mul] at hdb
      have hw := hwl w (by rw [← ed]; simp)
      unfold encWd encBk
      (repeat decreasing_trivial_pre_omega)
      refine ⟨by omega, by omega, by omega, by omega, ?_⟩
      rw [rngU_m1]
      refine dcompL_by (enc := fun i : Nat => U.int ((-1 : Int) + (i : Nat))) (fun don2 rest2 M' => M' t = some (.lst ((longT b.n don).map encWd ++ don2.map fun i : Nat => encWd (w ++ [(-1 : Int) + (i : Nat)]))) ∧ M' r1 = some (.lst (W.map encWd)) ∧ Sub M M') (List.range (b.n + 1)) ⟨by rw [f1]; simp, f2, f3⟩ ?_ ?_
      · intro don2 j rest2 M3 k3 e' ⟨g1, g2, g3⟩ hk3
        have h2l : don2.length + rest2.length + 1 = b.n + 1 := by rw [← List.length_range (n := b.n + 1), ← e']; simp; omega
        (repeat decreasing_trivial_pre_omega)
        refine o_addT ?_ ?_
        · rw [List.length_map]
          simp
          omega
        refine ap_lst g1 ?_ ?_
        · rw [List.length_append, List.length_map, List.length_map, longT_len]; omega
        refine hk3 _ trivial ⟨?_, um_oth hrt g2, sub_um g3 hMt⟩
        rw [um_same]
        simp [encWd]
      · intro M3 ⟨g1, g2, g3⟩
        refine hk2 _ g2 ⟨?_, g2, g3⟩
        rw [g1]
        unfold longT
        rw [List.flatMap_append]
        simp [Function.comp]
    · intro M2 ⟨f1, f2, f3⟩
      (repeat decreasing_trivial_pre_omega)
      exact hk _ _ trivial ⟨t, _, _, _, rfl, by rw [hstep]; exact f1, f3⟩
  · intro σ M1 ⟨r1, u2, u3, u4, e1, e2, e3⟩
    subst e1
    (repeat decreasing_trivial_pre_omega)
    exact hq h4 M1 e3
theorem lwith_ok {b : Bk} {r : Str} {bd : Bd} (hl : b.rows.length ≤ 1000) (hq : ∀ M', Sub M M' → rt (encBk (withB b r bd)) M') : wS C B_law_with_body ⟨nx, rt, bk, ct⟩ (startU 4 [encBk b, .str r, encB bd]) M := by
  have hlim : LIM = 100000 := rfl
  unfold B_law_with_body encBk
  (repeat decreasing_trivial_pre_omega)
  refine compL_by (enc := encRow) (fun don rest acc M' => M' = M ∧ acc = don.map fun x => encRow (if x.1 = r then (x.1, bd) else x)) b.rows ⟨rfl, rfl⟩ ?_ ?_
  · intro don x rest acc M2 k ed ⟨e1, e2⟩ hk
    subst e1 e2
    have hdl : don.length + rest.length + 1 = b.rows.length := by rw [← ed]; simp; omega
    unfold encRow
    (repeat decreasing_trivial_pre_omega)
    refine i_ifd (fun h => ?_) (fun h => ?_)
    · (repeat decreasing_trivial_pre_omega)
      exact hk _ _ trivial (fun _ => by rw [List.length_map]; omega) ⟨rfl, by simp [h, encRow]⟩
    · (repeat decreasing_trivial_pre_omega)
      exact hk _ _ trivial (fun _ => by rw [List.length_map]; omega) ⟨rfl, by simp [h, encRow]⟩
  · intro acc M2 ⟨e1, e2⟩
    subst e1 e2
    intro q q0
    (repeat decreasing_trivial_pre_omega)
    have eb : U.tup [.int b.n, .tup (b.heads.map U.str), .tup (b.rows.map fun x => encRow (if x.1 = r then (x.1, bd) else x))] = encBk (withB b r bd) := by
      unfold encBk withB
      rw [List.map_map]
      rfl
    rw [eb]
    exact hq _ (sub_um (Sub.refl _) q0)
end
end Pl.K2

set_option maxHeartbeats 2000000
/-! k02: what a call tells; another body; the law -/
namespace Pl.K2
open PySem L2
def B_law_error (with_body : Nat) (body_of : Nat) (worlds : Nat) : S := (.seq (.try_ (.seq (.ifs (.cmp .eq (.var 0) (.str "worlds")) (.seq (.ret (.tup (.cons (.str "ok") (.cons (.callX worlds (.cons (.var 3) .nil)) .nil)))) .skip) .skip) (.seq (.ifs (.cmp .eq (.var 0) (.str "body")) (.seq (.ret (.tup (.cons (.str "ok") (.cons (.callX body_of (.cons (.var 3) (.cons (.var 1) .nil))) .nil)))) .skip) .skip) (.seq (.ret (.tup (.cons (.str "ok") (.cons (.callX with_body (.cons (.var 3) (.cons (.var 1) (.cons (.var 2) .nil)))) .nil)))) .skip))) (.hdl (some 4) ["TooMany"] ["NoRule", "BadBody"] (.seq (.ret (.tup (.cons (.str "TooMany") (.cons (.xfd "limit" 4 ["TooMany"]) (.cons (.isx 4 ["NoRule", "BadBody", "TooMany"] []) (.cons (.isx 4 ["NoRule", "BadBody", "TooMany"] []) .nil)))))) .skip) (.hdl (some 4) ["NoRule"] ["BadBody", "TooMany"] (.seq (.ret (.tup (.cons (.str "NoRule") (.cons (.xfd "name" 4 ["NoRule"]) (.cons (.isx 4 ["NoRule", "BadBody", "TooMany"] []) (.cons (.isx 4 ["NoRule", "BadBody", "TooMany"] []) .nil)))))) .skip) (.hdl (some 4) ["BadBody"] ["NoRule", "TooMany"] (.seq (.ret (.tup (.cons (.str "BadBody") (.cons (.xfd "rule" 4 ["BadBody"]) (.cons (.isx 4 ["NoRule", "BadBody", "TooMany"] []) (.cons (.isx 4 ["NoRule", "BadBody", "TooMany"] []) .nil)))))) .skip) .skip)))) .skip)
def B_law_other_body (law_nodes : Nat) (law_deep : Nat) (law_draw : Nat) (law_pick : Nat) : S := (.seq (.asg 3 (.comp [("row", 4)] (.one 4) (.iSeq (.ix (.var 1) (.int 2))) .nil (.ix (.var 4) (.int 0)))) (.seq (.asg 5 (.call law_draw (.cons (.var 0) (.cons (.int 6) .nil)))) (.seq (.ifs (.cmp .eq (.var 5) (.int 0)) (.seq (.ret (.tup (.cons (.tup (.cons (.str "ask") (.cons (.str "nobodyis") (.cons (.tup (.cons (.str "done") .nil)) .nil)))) (.cons (.bl false) .nil)))) .skip) .skip) (.seq (.ifs (.cmp .eq (.var 5) (.int 1)) (.seq (.ret (.tup (.cons (.tup (.cons (.str "ask") (.cons (.call law_pick (.cons (.var 0) (.cons (.var 3) .nil))) (.cons (.tup (.cons (.str "done") .nil)) .nil)))) (.cons (.bl true) .nil)))) .skip) .skip) (.seq (.asg 6 (.ix (.call law_pick (.cons (.var 0) (.cons (.blt .list (.cons (.ix (.var 1) (.int 2)) .nil)) .nil))) (.int 1))) (.seq (.ifs (.cmp .eq (.var 5) (.int 2)) (.seq (.for_ (.one 7) (.iRange (.call law_draw (.cons (.var 0) (.cons (.int 16) .nil)))) (.seq (.asg 6 (.tup (.cons (.str "put") (.cons (.str "x") (.cons (.int 0) (.cons (.var 6) .nil)))))) .skip)) .skip) .skip) (.seq (.ifs (.ors (.cons (.cmp .eq (.var 5) (.int 3)) (.cons (.cmp .eq (.var 5) (.int 4)) .nil))) (.seq (.for_ (.one 7) (.iRange (.call law_draw (.cons (.var 0) (.cons (.int 4) .nil)))) (.seq (.asg 6 (.tup (.cons (.str "see") (.cons (.str "x") (.cons (.blt .tuple (.cons (.bin .mul (.lst (.cons (.var 6) .nil)) (.bin .add (.ix (.var 1) (.int 0)) (.int 1))) .nil)) .nil))))) (.seq (.ifs (.cmp .gt (.call law_nodes (.cons (.var 6) .nil)) (.int 60)) (.seq .brk .skip) .skip) .skip))) .skip) .skip) (.seq (.ret (.tup (.cons (.var 6) (.cons (.ands (.cons (.cmp .le (.call law_deep (.cons (.var 6) .nil)) (.int 16)) (.cons (.cmp .le (.call law_nodes (.cons (.var 6) .nil)) (.int 120)) .nil))) .nil)))) .skip))))))))
def B_law (law_error : Nat) (law_with_body : Nat) (law_other_body : Nat) (law_pick : Nat) (body_of : Nat) (nodes_of : Nat) (law_nodes : Nat) (law_worlds : Nat) (law_many_worlds : Nat) (law_rare : Nat) (law_draw : Nat) (law_book : Nat) (law_begin : Nat) : S := (.seq (.asg 1 (.call law_begin (.cons (.var 0) .nil))) (.seq (.asg 2 (.call law_book (.cons (.var 1) (.cons (.int 4) (.cons (.int 3) (.cons (.int 3) (.cons (.int 12) .nil))))))) (.seq (.ifs (.call law_rare (.cons (.var 1) (.cons (.int 3) .nil))) (.seq (.asg 2 (.tup (.cons (.ix (.var 2) (.int 0)) (.cons (.slice (.tup (.cons (.str "a") (.cons (.str "b") (.cons (.str "c") (.cons (.str "s") (.cons (.str "m") .nil)))))) .nil (.call law_draw (.cons (.var 1) (.cons (.int 6) .nil)))) (.cons (.ix (.var 2) (.int 2)) .nil))))) .skip) .skip) (.seq (.asg 3 (.call law_many_worlds (.cons (.var 2) .nil))) (.seq (.asg 4 (.call law_error (.cons (.str "worlds") (.cons (.str "") (.cons (.tup .nil) (.cons (.var 2) .nil)))))) (.seq (.ifs (.cmp .gt (.var 3) (.int 400)) (.seq (.ifs (.cmp .neb (.var 4) (.tup (.cons (.str "TooMany") (.cons (.int 400) (.cons (.bl true) (.cons (.bl true) .nil)))))) (.seq (.ret (.bl false)) .skip) .skip) .skip) (.seq (.ifs (.ors (.cons (.cmp .ne (.ix (.var 4) (.int 0)) (.str "ok")) (.cons (.not (.isinst (.ix (.var 4) (.int 1)) "tuple")) (.cons (.cmp .ne (.blt .list (.cons (.ix (.var 4) (.int 1)) .nil)) (.call law_worlds (.cons (.var 2) .nil))) .nil)))) (.seq (.ret (.bl false)) .skip) .skip) .skip)) (.seq (.for_ (.one 5) (.iSeq (.ix (.var 2) (.int 2))) (.seq (.ifs (.ors (.cons (.cmp .ne (.call nodes_of (.cons (.ix (.var 5) (.int 1)) .nil)) (.call law_nodes (.cons (.ix (.var 5) (.int 1)) .nil))) (.cons (.cmp .ne (.callX body_of (.cons (.var 2) (.cons (.ix (.var 5) (.int 0)) .nil))) (.ix (.var 5) (.int 1))) .nil))) (.seq (.ret (.bl false)) .skip) .skip) .skip)) (.seq (.asg 6 (.call law_pick (.cons (.var 1) (.cons (.comp [("row", 5)] (.one 5) (.iSeq (.ix (.var 2) (.int 2))) .nil (.ix (.var 5) (.int 0))) .nil)))) (.seq (.asgT [7, 8] (.call law_other_body (.cons (.var 1) (.cons (.var 2) (.cons (.var 6) .nil))))) (.seq (.asg 9 (.ite (.var 8) (.tup (.cons (.str "ok") (.cons (.call law_with_body (.cons (.var 2) (.cons (.var 6) (.cons (.var 7) .nil)))) .nil))) (.tup (.cons (.str "BadBody") (.cons (.var 6) (.cons (.bl true) (.cons (.bl true) .nil))))))) (.seq (.ifs (.cmp .neb (.call law_error (.cons (.str "with") (.cons (.var 6) (.cons (.var 7) (.cons (.var 2) .nil))))) (.var 9)) (.seq (.ret (.bl false)) .skip) .skip) (.seq (.ifs (.cmp .neb (.call law_error (.cons (.str "with") (.cons (.str "nobodyis") (.cons (.var 7) (.cons (.var 2) .nil))))) (.tup (.cons (.str "NoRule") (.cons (.str "nobodyis") (.cons (.bl true) (.cons (.bl true) .nil)))))) (.seq (.ret (.bl false)) .skip) .skip) (.seq (.ret (.cmp .eqb (.call law_error (.cons (.str "body") (.cons (.str "nobodyis") (.cons (.var 7) (.cons (.var 2) .nil))))) (.tup (.cons (.str "NoRule") (.cons (.str "nobodyis") (.cons (.bl true) (.cons (.bl true) .nil))))))) .skip)))))))))))))
def okT (u : U) : U := .tup [.str "ok", u]
def erT (c : Str) (u : U) : U := .tup [.str c, u, .bl true, .bl true]
def ErrWorlds (C : CE) (f : Nat) : Prop := ∀ (M : Hm) (b : Bk) (Q : QU), (b.n + 1) ^ b.heads.length ≤ 50000 → b.n < 100 → b.heads.length ≤ 1000 →
  ((b.n + 1) ^ b.heads.length ≤ 400 → ∀ M', Sub M M' → Q (okT (.tup ((worldsT b.n b.heads.length).map encWd))) M') →
  (400 < (b.n + 1) ^ b.heads.length → ∀ M', Sub M M' → Q (erT "TooMany" (.int 400)) M') → C f [.str "worlds", .str "", .tup [], encBk b] M Q
def ErrWith (C : CE) (f : Nat) : Prop := ∀ (M : Hm) (b : Bk) (r : Str) (bd : Bd) (Q : QU), r.length ≤ 1000 → b.rows.length ≤ 1000 → K1.pl 50 (encBk (withB b r bd)) = true →
  ((kfind b.rows r).isSome = true → K1.bookU (encBk (withB b r bd)) = true → ∀ M', Sub M M' → Q (okT (encBk (withB b r bd))) M') →
  ((kfind b.rows r).isSome = true → K1.bookU (encBk (withB b r bd)) = false → ∀ M', Sub M M' → Q (erT "BadBody" (.str r)) M') →
  (kfind b.rows r = none → ∀ M', Sub M M' → Q (erT "NoRule" (.str r)) M') → C f [.str "with", .str r, encB bd, encBk b] M Q
def ErrBody (C : CE) (f : Nat) : Prop := ∀ (M : Hm) (b : Bk) (r : Str) (bd : Bd) (Q : QU), r.length ≤ 1000 → kfind b.rows r = none → (∀ M', Sub M M' → Q (erT "NoRule" (.str r)) M') → C f [.str "body", .str r, encB bd, encBk b] M Q
section
variable {C : CE} {nx bk ct : SU → Hm → Prop} {rt : QU} {M : Hm}
theorem err_worlds {fw fb fo : Nat} (hW : WorldsX C fo) {b : Bk} (hB : (b.n + 1) ^ b.heads.length ≤ 50000) (hn : b.n < 100) (hh : b.heads.length ≤ 1000)
    (hq : (b.n + 1) ^ b.heads.length ≤ 400 → ∀ M', Sub M M' → rt (okT (.tup ((worldsT b.n b.heads.length).map encWd))) M')
    (he : 400 < (b.n + 1) ^ b.heads.length → ∀ M', Sub M M' → rt (erT "TooMany" (.int 400)) M') :
    wS C (B_law_error fw fb fo) ⟨nx, rt, bk, ct⟩ (startU 5 [.str "worlds", .str "", .tup [], encBk b]) M := by
  unfold B_law_error
  (repeat decreasing_trivial_pre_omega)
  refine hW M b _ _ hB hn hh (fun h4 M' s => ?_) fun h4 d M' s hd => ?_
  · (repeat decreasing_trivial_pre_omega)
    exact hq h4 M' s
  · refine h_yes (by decide +kernel) fun p hp => ?_
    (repeat decreasing_trivial_pre_omega)
    exact he h4 M' s
theorem err_with {fw fb fo : Nat} (hW : WithX C fw) {b : Bk} {r : Str} {bd : Bd} (hr : r.length ≤ 1000) (hl : b.rows.length ≤ 1000) (hp : K1.pl 50 (encBk (withB b r bd)) = true)
    (hq : (kfind b.rows r).isSome = true → K1.bookU (encBk (withB b r bd)) = true → ∀ M', Sub M M' → rt (okT (encBk (withB b r bd))) M')
    (he1 : (kfind b.rows r).isSome = true → K1.bookU (encBk (withB b r bd)) = false → ∀ M', Sub M M' → rt (erT "BadBody" (.str r)) M')
    (he0 : kfind b.rows r = none → ∀ M', Sub M M' → rt (erT "NoRule" (.str r)) M') :
    wS C (B_law_error fw fb fo) ⟨nx, rt, bk, ct⟩ (startU 5 [.str "with", .str r, encB bd, encBk b]) M := by
  unfold B_law_error
  (repeat decreasing_trivial_pre_omega)
  refine hW M b r bd _ _ hr hl hp (fun h1 h2 M' s => ?_) (fun h1 h2 d M' s hd => ?_) fun h0 d M' s hd => ?_
  · (repeat decreasing_trivial_pre_omega)
    exact hq h1 h2 M' s
  · refine h_no (by decide +kernel) ?_
    refine h_no (by decide +kernel) ?_
    refine h_yes (by decide +kernel) fun p hp => ?_
    (repeat decreasing_trivial_pre_omega)
    exact he1 h1 h2 M' s
  · refine h_no (by decide +kernel) ?_
    refine h_yes (by decide +kernel) fun p hp => ?_
    (repeat decreasing_trivial_pre_omega)
    exact he0 h0 M' s
theorem err_body {fw fb fo : Nat} (hB : BodyOfX C fb) {b : Bk} {r : Str} {bd : Bd} (hr : r.length ≤ 1000) (h0 : kfind b.rows r = none) (he : ∀ M', Sub M M' → rt (erT "NoRule" (.str r)) M') :
    wS C (B_law_error fw fb fo) ⟨nx, rt, bk, ct⟩ (startU 5 [.str "body", .str r, encB bd, encBk b]) M := by
  unfold B_law_error
  (repeat decreasing_trivial_pre_omega)
  refine hB M b r _ _ hr (fun bd0 e0 M1 s1 => ?_) fun e d M' s hd => ?_
  · rw [h0] at e0; cases e0
  · refine h_no (by decide +kernel) ?_
    refine h_yes (by decide +kernel) fun p hp => ?_
    (repeat decreasing_trivial_pre_omega)
    exact he M' s
end
end Pl.K2

set_option maxHeartbeats 2000000
/-! k02: which bodies fit; the book with another body -/
namespace Pl.K2
open PySem L2
theorem topl_rev : ∀ st : List (Bd × Nat), topl st.reverse = topl st
  | [] => rfl
  | x :: st => by
    rw [List.reverse_cons, topl_app, topl_rev st]
    show max (topl st) (max (x.2 + dep x.1) 0) = max (x.2 + dep x.1) (topl st)
    omega
theorem szl_rev (st : List (Bd × Nat)) : K1.szl st.reverse = K1.szl st := by
  unfold K1.szl
  rw [List.map_reverse, List.sum_reverse]
theorem szl_cons (x : Bd × Nat) (st : List (Bd × Nat)) : K1.szl (x :: st) = sz x.1 + K1.szl st := by unfold K1.szl; rw [List.map_cons, List.sum_cons]
theorem chk_eq {n : Nat} {ns : List Str} {pp : Str → Int → Prop} {ps : Str → Prop} (h1 : ∀ f c, pp f c → nmS f = true ∧ 0 ≤ c ∧ c < n) (h2 : ∀ f ∈ ns, nmS f = true) (h3 : ∀ f, ps f → nmS f = true) :
    ∀ (f : Nat) (st : List (Bd × Nat)), (∀ x ∈ st, ∃ j, BP (n + 1) pp (fun r => r ∈ ns) ps j x.1) → K1.chk n ns f (st.map fun x => (encB x.1, x.2)) = decide (K1.szl st ≤ f ∧ topl st ≤ 16)
  | f, [], _ => by
    rw [List.map_nil, K1.chk_nil]
    exact (decide_eq_true ⟨Nat.zero_le _, Nat.zero_le _⟩).symm
  | 0, x :: st, hb => by
    have := K1.sz_pos x.1
    have e := szl_cons x st
    rw [decide_eq_false (by omega)]
    rfl
  | f + 1, x :: st, hb => by
    obtain ⟨j, hj⟩ := hb x List.mem_cons_self
    obtain ⟨e, hk⟩ := K1.next_enc h1 h2 h3 hj
    have hz := szl_cons x st
    have htop : topl (x :: st) = max (x.2 + dep x.1) (topl st) := rfl
    by_cases hd : 16 < x.2
    · rw [List.map_cons, K1.chk_deep (x := (encB x.1, x.2)) hd, decide_eq_false (by omega)]
    rw [List.map_cons, K1.chk_some (x := (encB x.1, x.2)) hd e]
    have ih := chk_eq h1 h2 h3 f (((kidsM x.1).map fun b => (b, x.2 + 1)).reverse ++ st) fun y hy => by
      rcases List.mem_append.mp hy with hy | hy
      · obtain ⟨b, hb', rfl⟩ := List.mem_map.mp (List.mem_reverse.mp hy)
        obtain ⟨i, hi, hbp⟩ := hk b hb'
        exact ⟨i, hbp⟩
      · exact hb y (List.mem_cons_of_mem _ hy)
    rw [List.map_append, List.map_reverse, List.map_map] at ih
    rw [List.map_map]
    refine Eq.trans ih ?_
    have g1 := szl_kids (x.2 + 1) x.1
    have g2 := topl_kids x.2 (kidsM x.1)
    rw [← dep_kids] at g2
    rw [szl_app, topl_app, szl_rev, topl_rev, decide_eq_decide]
    omega
/-- a body over this book, of whatever size -/
def BB (b : Bk) (bd : Bd) : Prop := ∃ j, BBP b j bd
theorem chk_bb {b : Bk} (hb : BkG b 13) {bd : Bd} (h : BB b bd) : K1.chk b.n b.names 120 [(encB bd, 1)] = decide (sz bd ≤ 120 ∧ dep bd + 1 ≤ 16) := by
  obtain ⟨j, h⟩ := h
  have hm : ∀ f ∈ b.names, nmS f = true := fun f hf => by
    obtain ⟨r, hr, rfl⟩ := List.mem_map.mp hf
    exact (hb.ok.rows r hr).1
  have := chk_eq (pp := fun f c => nmS f = true ∧ 0 ≤ c ∧ c < b.n) (ps := fun f => nmS f = true) (fun f c h => h) hm (fun f h => h) 120 [(bd, 1)] fun y hy => by
    rw [List.mem_singleton.mp hy]
    exact ⟨j, h⟩
  refine Eq.trans this ?_
  rw [szl_one, decide_eq_decide]
  show _ ∧ max (1 + dep bd) 0 ≤ 16 ↔ _
  omega
theorem withB_names (b : Bk) (r : Str) (bd : Bd) : (withB b r bd).names = b.names := by
  unfold Bk.names withB
  rw [List.map_map]
  refine List.map_congr_left fun x _ => ?_
  show (if x.1 = r then (x.1, bd) else x).1 = x.1
  split <;> rfl
theorem kfind_none {b : Bk} {r : Str} (h : r ∉ b.names) : kfind b.rows r = none := by
  have := kfind_isSome (l := b.rows) (k := r)
  rw [decide_eq_false (show ¬ r ∈ b.rows.map (·.1) from h)] at this
  cases e : kfind b.rows r with
  | none => rfl
  | some x => rw [e] at this; cases this
theorem kfind_some {b : Bk} {r : Str} (h : r ∈ b.names) : (kfind b.rows r).isSome = true := by
  rw [kfind_isSome]
  exact decide_eq_true h
theorem kfind_row {b : Bk} (hb : b.names.Nodup) {x : Str × Bd} (h : x ∈ b.rows) : kfind b.rows x.1 = some x.2 := by
  unfold Bk.names at hb
  generalize b.rows = l at hb h
  induction l with
  | nil => cases h
  | cons y l ih =>
    rw [List.map_cons, List.nodup_cons] at hb
    rw [kfind_cons]
    rcases List.mem_cons.mp h with rfl | h
    · rw [if_pos rfl]
    · rw [if_neg (fun e => hb.1 (by rw [e]; exact List.mem_map.mpr ⟨x, h, rfl⟩)), ih hb.2 h]
theorem book_with {b : Bk} {nm : Str} {bd : Bd} (hb : BkG b 13) (hn : b.n ≤ 4) (hl : b.heads.length ≤ 5) (hm : nm ∈ b.names) : K1.bookU (encBk (withB b nm bd)) = K1.chk b.n b.names 120 [(encB bd, 1)] := by
  have hmm : ∀ f ∈ b.names, nmS f = true := fun f hf => by
    obtain ⟨r, hr, rfl⟩ := List.mem_map.mp hf
    exact (hb.ok.rows r hr).1
  have efN : ((withB b nm bd).rows.map encRow).map K1.fstU = b.names.map U.str := by
    rw [← withB_names b nm bd]
    unfold Bk.names
    rw [List.map_map, List.map_map]
    rfl
  have hrl : (withB b nm bd).rows.length = b.rows.length := by unfold withB; simp
  have names : ∀ lo hi (l : List Str), lo ≤ l.length → l.length ≤ hi → (∀ x ∈ l, nmS x = true) → l.Nodup → K1.namesU lo hi (.tup (l.map U.str)) = true := fun lo hi l g1 g2 g3 g4 => by
    show ((decide (lo ≤ (l.map U.str).length) && decide ((l.map U.str).length ≤ hi)) && ((l.map U.str).all K1.nameU && decide (l.map U.str).Nodup)) = true
    rw [List.length_map, decide_eq_true g1, decide_eq_true g2, decide_eq_true (K1.nd_str.mpr g4), Bool.and_true, Bool.true_and, Bool.and_true]
    refine List.all_eq_true.mpr fun x hx => ?_
    obtain ⟨y, hy, rfl⟩ := List.mem_map.mp hx
    exact K1.name_of (g3 y hy)
  have hnl : b.names.length = b.rows.length := by unfold Bk.names; rw [List.length_map]
  have a1 : K1.kindU (.int (b.n : Nat)) = true := by
    have := hb.ok.n0
    show (decide (1 ≤ ((b.n : Nat) : Int)) && decide (((b.n : Nat) : Int) ≤ 4)) = true
    rw [decide_eq_true (by omega), decide_eq_true (by omega)]
    rfl
  have a2 := names 0 5 b.heads (Nat.zero_le _) hl hb.ok.heads hb.hd
  have a3 : K1.rulesU (.tup ((withB b nm bd).rows.map encRow)) = true := by
    show ((decide (1 ≤ ((withB b nm bd).rows.map encRow).length) && decide (((withB b nm bd).rows.map encRow).length ≤ 8)) && (((withB b nm bd).rows.map encRow).all K1.pairU && K1.namesU 1 8 (.tup (((withB b nm bd).rows.map encRow).map K1.fstU)))) = true
    rw [List.length_map, hrl, decide_eq_true (show 1 ≤ b.rows.length from hb.r0), decide_eq_true hb.r8, efN, names 1 8 b.names (by rw [hnl]; exact hb.r0) (by rw [hnl]; exact hb.r8) hmm hb.nd, Bool.and_true, Bool.true_and, Bool.and_true]
    refine List.all_eq_true.mpr fun x hx => ?_
    obtain ⟨y, hy, rfl⟩ := List.mem_map.mp hx
    rfl
  have a4 : K1.bodU (.int (b.n : Nat)) (.tup ((withB b nm bd).rows.map encRow)) = K1.chk b.n b.names 120 [(encB bd, 1)] := by
    show (((withB b nm bd).rows.map encRow).all fun r => K1.chk ((b.n : Nat) : Int).toNat (K1.strsU (((withB b nm bd).rows.map encRow).map K1.fstU)) 120 [(K1.sndU r, 1)]) = _
    rw [efN, K1.strs_str, Int.toNat_natCast, Bool.eq_iff_iff, List.all_eq_true]
    constructor
    · intro h
      obtain ⟨r, hr, e⟩ := List.mem_map.mp hm
      have := h (encRow (r.1, bd)) (List.mem_map.mpr ⟨_, List.mem_map.mpr ⟨r, hr, by rw [if_pos e]⟩, rfl⟩)
      exact this
    · intro h x hx
      obtain ⟨y, hy, rfl⟩ := List.mem_map.mp hx
      obtain ⟨r, hr, rfl⟩ := List.mem_map.mp hy
      by_cases e : r.1 = nm
      · rw [if_pos e]
        exact h
      · rw [if_neg e]
        have hs := hb.sz r hr
        exact K1.chk_enc (pp := fun f c => nmS f = true ∧ 0 ≤ c ∧ c < b.n) (ps := fun f => nmS f = true) (fun f c h => h) hmm (fun f h => h) 120 [(r.2, 1)] (by show sz r.2 + 0 ≤ 120; omega) fun y hy => by
          rw [List.mem_singleton.mp hy]
          exact ⟨13, hb.bp r hr, by show 1 + 13 ≤ 16; decide⟩
  show (K1.kindU (.int (b.n : Nat)) && (K1.namesU 0 5 (.tup (b.heads.map U.str)) && (K1.rulesU (.tup ((withB b nm bd).rows.map encRow)) && K1.bodU (.int (b.n : Nat)) (.tup ((withB b nm bd).rows.map encRow))))) = _
  rw [a1, a2, a3, a4]
  rfl
theorem with_pl {b : Bk} {nm : Str} {bd : Bd} (hb : BkG b 13) (hn : b.n ≤ 4) (hl : b.heads.length ≤ 5) (hp : K1.pl 45 (encB bd) = true) : K1.pl 48 (encBk (withB b nm bd)) = true := by
  have h1 : K1.pl 47 (.tup ((withB b nm bd).rows.map encRow)) = true := K1.pl_t (by rw [List.length_map]; unfold withB; rw [List.length_map]; have := hb.r8; omega) fun x hx => by
    obtain ⟨y, hy, rfl⟩ := List.mem_map.mp hx
    obtain ⟨r, hr, rfl⟩ := List.mem_map.mp hy
    split
    · unfold encRow
      exact K1.pl2 (K1.nm_pl (hb.ok.rows r hr).1 _) hp
    · exact K1.pl_le (K1.row_pl hb hn r hr) (by decide)
  unfold encBk
  exact K1.pl3 rfl (K1.pl_le (K1.heads_pl hb hl 30) (by decide)) h1
/-! sameness of what a call tells -/
theorem ok_okb : ∀ {n : Nat} {u : U}, U.ok n u = true → U.okb n u = true
  | _, .non, _ => by unfold U.okb; rfl
  | _, .int _, _ => by unfold U.okb; rfl
  | 0, .str s, h => h
  | n + 1, .str s, h => h
  | 0, .tup l, h => by cases h
  | n + 1, .tup l, h => by
    have h : l.all (U.ok n) = true := h
    show l.all (U.okb n) = true
    rw [List.all_eq_true] at h ⊢
    exact fun x hx => ok_okb (h x hx)
  | n, .bl _, h => by cases n <;> cases h
  | n, .ref _, h => by cases n <;> cases h
  | n, .rol _, h => by cases n <;> cases h
  | n, .dtp _, h => by cases n <;> cases h
mutual
theorem nomix_self : ∀ u : U, nomix u u = true
  | .tup l => nomixL_self l
  | .non => rfl
  | .bl _ => rfl
  | .int _ => rfl
  | .str _ => rfl
  | .ref _ => rfl
  | .rol _ => rfl
  | .dtp _ => rfl
theorem nomixL_self : ∀ l : List U, nomixL l l = true
  | [] => rfl
  | x :: l => by
    show (nomix x x && nomixL l l) = true
    rw [nomix_self x, nomixL_self l]
    rfl
end
theorem okM_self {u : U} (h : u.okb 60 = true) : okM u u = true := by
  unfold okM
  rw [h, nomix_self]
  rfl
theorem okT_okb {u : U} (h : K1.pl 59 u = true) : (okT u).okb 60 = true := by
  show ([U.str "ok", u].all (U.okb 59)) = true
  rw [List.all_cons, List.all_cons, ok_okb (K1.pl_ok h)]
  decide +kernel
theorem erT_okb {c : Str} {r : Str} (hc : okS c = true) (hr : okS r = true) : (erT c (.str r)).okb 60 = true := by
  show ([U.str c, .str r, .bl true, .bl true].all (U.okb 59)) = true
  rw [List.all_cons, List.all_cons]
  show (okS c && (okS r && _)) = true
  rw [hc, hr]
  rfl
theorem nm_s {s : Str} (h : nmS s = true) : okS s = true ∧ s.length ≤ 8 ∧ s ≠ "nobodyis" := by
  unfold nmS nameS at h
  rw [Bool.and_eq_true, Bool.and_eq_true, Bool.and_eq_true, Bool.and_eq_true] at h
  refine ⟨h.1.1, of_decide_eq_true h.1.2.1.2, fun e => ?_⟩
  have h2 := h.2
  rw [e] at h2
  revert h2
  decide +kernel
theorem no_nobody {b : Bk} (hb : BkG b 13) : ("nobodyis" : Str) ∉ b.names := fun h => by
  obtain ⟨r, hr, e⟩ := List.mem_map.mp h
  exact (nm_s (hb.ok.rows r hr).1).2.2 e
end Pl.K2

set_option maxHeartbeats 2000000
/-! k02: another body; the law -/
namespace Pl.K2
open PySem L2
structure Other (b : Bk) (bd : Bd) (ok : Bool) : Prop where
  pl : K1.pl 45 (encB bd) = true
  ok : ok = K1.chk b.n b.names 120 [(encB bd, 1)]
def OtherC (C : CE) (f : Nat) : Prop := ∀ (M : Hm) (p : Addr × Addr) (b : Bk) (nm : Str) (Q : QU), BkG b 13 → b.n ≤ 4 → Dr M p → (∀ bd ok M', Other b bd ok → Dr M' p → Fr p M M' → Q (.tup [encB bd, .bl ok]) M') → C f [.ref p.1, encBk b, .str nm] M Q
theorem pl_put {n : Nat} {bd : Bd} (h : K1.pl n (encB bd) = true) : K1.pl (n + 1) (encB (.put "x" 0 bd)) = true := by
  unfold encB
  exact K1.pl4 (K1.pl_le (n := 0) (by decide +kernel) (Nat.zero_le _)) (K1.pl_le (n := 0) (by decide +kernel) (Nat.zero_le _)) (K1.pl_le (n := 0) rfl (Nat.zero_le _)) h
theorem pl_see {n k : Nat} {bd : Bd} (hk : k ≤ 100) (h : K1.pl n (encB bd) = true) : K1.pl (n + 2) (encB (.see "x" (List.replicate k bd))) = true := by
  unfold encB
  rw [encBs_map]
  refine K1.pl3 (K1.pl_le (n := 0) (by decide +kernel) (Nat.zero_le _)) (K1.pl_le (n := 0) (by decide +kernel) (Nat.zero_le _)) (K1.pl_t (by rw [List.length_map, List.length_replicate]; omega) fun x hx => ?_)
  obtain ⟨y, hy, rfl⟩ := List.mem_map.mp hx
  rw [List.eq_of_mem_replicate hy]
  exact h
theorem bb_put {b : Bk} (hb : BkG b 13) {bd : Bd} (h : BB b bd) : BB b (.put "x" 0 bd) := by
  obtain ⟨j, h⟩ := h
  have := hb.ok.n0
  exact ⟨j + 1, .put ⟨by decide +kernel, by decide, by omega⟩ h⟩
theorem bb_see {b : Bk} {bd : Bd} (h : BB b bd) : BB b (.see "x" (List.replicate (b.n + 1) bd)) := by
  obtain ⟨j, h⟩ := h
  exact ⟨j + 1, .see (by decide +kernel) (by rw [List.length_replicate]) fun x hx => by rw [List.eq_of_mem_replicate hx]; exact h⟩
theorem szs_rep (k : Nat) (bd : Bd) : sz.szs (List.replicate k bd) = k * sz bd := by
  induction k with
  | zero => simp [sz.szs]
  | succ k ih =>
    rw [List.replicate_succ]
    show sz bd + sz.szs (List.replicate k bd) = _
    rw [ih, Nat.succ_mul]
    omega
section
variable {C : CE} {nx bk ct : SU → Hm → Prop} {rt : QU} {M : Hm}
theorem map_ne {α β : Type} {f : α → β} {l : List α} (h : 0 < l.length) : l.map f ≠ [] := fun z => by
  rw [List.map_eq_nil_iff] at z
  rw [z] at h
  exact Nat.lt_irrefl 0 h
theorem flat_rep (k : Nat) (u : U) : (List.replicate k [u]).flatten = List.replicate k u := by
  induction k with
  | zero => rfl
  | succ k ih => rw [List.replicate_succ, List.flatten_cons, ih]; rfl
theorem other_ok {fn fde fdr fp : Nat} (hN : NodesC C fn) (hDe : DeepC C fde) (hd : DrawC C fdr) (hp : PickC C fp) {p : Addr × Addr} {b : Bk} {nm : Str} (hb : BkG b 13) (hn : b.n ≤ 4) (d : Dr M p)
    (hq : ∀ bd ok M', Other b bd ok → Dr M' p → Fr p M M' → rt (.tup [encB bd, .bl ok]) M') : wS C (B_law_other_body fn fde fdr fp) ⟨nx, rt, bk, ct⟩ (startU 8 [.ref p.1, encBk b, .str nm]) M := by
  have hlim : LIM = 100000 := rfl
  have hr8 := hb.r8
  have hr0 := hb.r0
  have hm : ∀ f ∈ b.names, nmS f = true := fun f hf => by
    obtain ⟨r, hr, rfl⟩ := List.mem_map.mp hf
    exact (hb.ok.rows r hr).1
  have tail : ∀ (bd : Bd) (M' : Hm) (R : QU), BB b bd → K1.pl 45 (encB bd) = true → sz bd ≤ 400 → Dr M' p → Fr p M M' → (∀ M3, Sub M' M3 → R (.int ((dep bd + 1 : Nat) : Int)) M3) → C fde [encB bd] M' R := fun bd M' R h1 h2 h3 h4 h5 h6 => hDe M' bd R h3 h6
  have fin : ∀ (bd : Bd) (M1 M2 M3 : Hm) (m : Nat), BB b bd → K1.pl 45 (encB bd) = true → Dr M1 p → Fr p M M1 → Sub M1 M2 → Sub M2 M3 → dep bd + 1 ≤ 16 → (m = sz bd ∨ (m = 400 ∧ 400 ≤ sz bd)) → rt (.tup [encB bd, .bl (decide ((m : Int) ≤ 120))]) M3 := fun bd M1 M2 M3 m h1 h2 h3 h4 s2 s3 h5 h6 =>
    hq bd _ M3 ⟨h2, by rw [chk_bb hb h1, decide_eq_decide]; omega⟩ ((h3.sub s2).sub s3) (h4.trans (s2.trans s3).fr)
  have fin0 : ∀ (bd : Bd) (M1 M2 : Hm), BB b bd → K1.pl 45 (encB bd) = true → Dr M1 p → Fr p M M1 → Sub M1 M2 → ¬ dep bd + 1 ≤ 16 → rt (.tup [encB bd, .bl false]) M2 := fun bd M1 M2 h1 h2 h3 h4 s2 h5 =>
    hq bd _ M2 ⟨h2, by rw [chk_bb hb h1]; exact (decide_eq_false (by omega)).symm⟩ (h3.sub s2) (h4.trans s2.fr)
  unfold B_law_other_body encBk
  (repeat decreasing_trivial_pre_omega)
  refine compL_by (enc := encRow) (fun don rest acc M' => M' = M ∧ acc = don.map fun x => U.str x.1) b.rows ⟨rfl, rfl⟩ ?_ ?_
  · intro don x rest acc M2 k ed ⟨e1, e2⟩ hk
    subst e1 e2
    have hdl : don.length + rest.length + 1 = b.rows.length := by rw [← ed]; simp; omega
    unfold encRow
    (repeat decreasing_trivial_pre_omega)
    exact hk _ _ trivial (fun _ => by rw [List.length_map]; omega) ⟨rfl, by simp⟩
  intro acc M2 ⟨e1, e2⟩
  subst e1 e2
  intro q q0
  have d1 := d.upd (o := .lst (b.rows.map fun x => U.str x.1)) q0
  have f1 : Fr p M2 (um M2 q (.lst (b.rows.map fun x => U.str x.1))) := (Fr.refl _ _).upd q0
  have hq1 : um M2 q (.lst (b.rows.map fun x => U.str x.1)) q = some (.lst (b.rows.map fun x => U.str x.1)) := um_same
  have qp := d.ne q0
  generalize um M2 q (.lst (b.rows.map fun x => U.str x.1)) = M3 at *
  (repeat decreasing_trivial_pre_omega)
  refine hd.lt M3 p 6 _ d1 (by decide) (by decide) fun way M4 hway d4 f4 => ?_
  have F4 := f1.trans f4
  have hq4 := f4.at_ qp hq1
  (repeat decreasing_trivial_pre_omega)
  by_cases w0 : way = 0
  · subst w0
    (repeat decreasing_trivial_pre_omega)
    have e0 : U.tup [.str "ask", .str "nobodyis", .tup [.str "done"]] = encB (.ask "nobodyis" .done) := by simp only [encB]
    rw [e0]
    refine hq _ _ M4 ⟨by decide +kernel, ?_⟩ d4 F4
    refine (K1.chk_none (x := (encB (.ask "nobodyis" .done), 1)) ?_).symm
    unfold encB
    rw [K1.nx_ask, decide_eq_false (fun z => no_nobody hb (mem_strs.mp z)), Bool.and_false]
    rfl
  have w0' : ¬ (way : Int) = 0 := by omega
  by_cases w1 : way = 1
  · subst w1
    (repeat decreasing_trivial_pre_omega)
    refine hp M4 p (.ref q) _ _ d4 (.inr ⟨q, rfl, qp, hq4⟩) (map_ne hr0) (by rw [List.length_map]; omega) fun x M5 hx d5 f5 => ?_
    obtain ⟨r, hr, rfl⟩ := List.mem_map.mp hx
    have hrn : r.1 ∈ b.names := List.mem_map.mpr ⟨r, hr, rfl⟩
    (repeat decreasing_trivial_pre_omega)
    have e0 : U.tup [.str "ask", .str r.1, .tup [.str "done"]] = encB (.ask r.1 .done) := by simp only [encB]
    rw [e0]
    refine hq _ _ M5 ⟨?_, ?_⟩ d5 (F4.trans f5)
    · unfold encB
      exact K1.pl3 (K1.pl_le (n := 0) (by decide +kernel) (Nat.zero_le _)) (K1.nm_pl (hm _ hrn) _) (K1.pl_le (n := 1) (by decide +kernel) (by decide))
    · rw [chk_bb hb (bd := .ask r.1 .done) ⟨1, .ask hrn .done⟩]
      exact (decide_eq_true ⟨by show 1 + 1 ≤ 120; decide, by show 1 + 0 + 1 ≤ 16; decide⟩).symm
  have w1' : ¬ (way : Int) = 1 := by omega
  (repeat decreasing_trivial_pre_omega)
  intro t t0
  (repeat decreasing_trivial_pre_omega)
  have tp := d4.ne t0
  refine hp _ p (.ref t) (b.rows.map encRow) _ (d4.upd t0) (.inr ⟨t, rfl, tp, um_same⟩) (map_ne hr0) (by rw [List.length_map]; omega) fun x M5 hx d5 f5 => ?_
  have F5 : Fr p M2 M5 := (F4.upd (F4.non tp t0)).trans f5
  obtain ⟨r, hr, rfl⟩ := List.mem_map.mp hx
  have hrb : BB b r.2 := ⟨13, hb.bp r hr⟩
  have hrp : K1.pl 27 (encB r.2) = true := K1.bd_pl hn (fun f c h => h.1) hm (fun f h => h) (hb.bp r hr)
  have hrs : sz r.2 ≤ 71 := hb.sz r hr
  unfold encRow
  (repeat decreasing_trivial_pre_omega)
  by_cases w2 : way = 2
  · subst w2
    (repeat decreasing_trivial_pre_omega)
    refine hd.lt M5 p 16 _ d5 (by decide) (by decide) fun m M6 hm6 d6 f6 => ?_
    (repeat decreasing_trivial_pre_omega)
    refine ⟨by omega, by omega, ?_⟩
    refine forL_nat (fun i σ M' => ∃ (bd : Bd) (u7 : Option U), σ = [some (.ref p.1), some (encBk b), some (.str nm), some (.ref q), none, some (.int 2), some (encB bd), u7] ∧ BB b bd ∧ K1.pl (27 + i) (encB bd) = true ∧ sz bd ≤ 71 + i ∧ M' = M6) m ⟨r.2, none, rfl, hrb, hrp, hrs, rfl⟩ ?_ ?_
    · intro i σ M7 k hi ⟨bd, u7, e1, g1, g2, g3, e2⟩ hk
      subst e1 e2
      (repeat decreasing_trivial_pre_omega)
      have e0 : U.tup [.str "put", .str "x", .int 0, encB bd] = encB (.put "x" 0 bd) := by simp only [encB]
      rw [e0]
      exact hk _ _ trivial ⟨_, _, rfl, bb_put hb g1, pl_put g2, by show 1 + sz bd ≤ _; omega, rfl⟩
    · intro σ M7 ⟨bd, u7, e1, g1, g2, g3, e2⟩
      subst e1 e2
      have g2' := K1.pl_le g2 (show 27 + m ≤ 45 by omega)
      (repeat decreasing_trivial_pre_omega)
      refine tail bd M7 _ g1 g2' (by omega) d6 (F5.trans f6) fun M8 s8 => ?_
      (repeat decreasing_trivial_pre_omega)
      refine i_ifd (fun h => ?_) (fun h => ?_)
      · (repeat decreasing_trivial_pre_omega)
        obtain ⟨j, hj⟩ := g1
        refine hN M8 bd (b.n + 1) _ _ _ _ _ (by omega) hj fun m9 M9 s9 h9 h9' => ?_
        (repeat decreasing_trivial_pre_omega)
        exact fin bd M7 M8 M9 m9 ⟨j, hj⟩ g2' d6 (F5.trans f6) s8 s9 (by omega) h9'
      · (repeat decreasing_trivial_pre_omega)
        exact fin0 bd M7 M8 g1 g2' d6 (F5.trans f6) s8 (by omega)
  have w2' : ¬ (way : Int) = 2 := by omega
  by_cases w34 : way = 3 ∨ way = 4
  · have key : ∀ wy : Int, wy = 3 ∨ wy = 4 → wS C (.seq (.for_ (.one 7) (.iRange (.call fdr (.cons (.var 0) (.cons (.int 4) .nil)))) (.seq (.asg 6 (.tup (.cons (.str "see") (.cons (.str "x") (.cons (.blt .tuple (.cons (.bin .mul (.lst (.cons (.var 6) .nil)) (.bin .add (.ix (.var 1) (.int 0)) (.int 1))) .nil)) .nil))))) (.seq (.ifs (.cmp .gt (.call fn (.cons (.var 6) .nil)) (.int 60)) (.seq .brk .skip) .skip) .skip))) .skip) ⟨wS C (.seq (.ret (.tup (.cons (.var 6) (.cons (.ands (.cons (.cmp .le (.call fde (.cons (.var 6) .nil)) (.int 16)) (.cons (.cmp .le (.call fn (.cons (.var 6) .nil)) (.int 120)) .nil))) .nil)))) .skip) ⟨nx, rt, bk, ct⟩, rt, bk, ct⟩
        [some (.ref p.1), some (encBk b), some (.str nm), some (.ref q), none, some (.int wy), some (encB r.2), none] M5 := by
      intro wy hwy
      (repeat decreasing_trivial_pre_omega)
      refine hd.lt M5 p 4 _ d5 (by decide) (by decide) fun m M6 hm6 d6 f6 => ?_
      (repeat decreasing_trivial_pre_omega)
      refine ⟨by omega, by omega, ?_⟩
      have done_ : ∀ (bd : Bd) (u7 : Option U) (M7 : Hm), BB b bd → K1.pl 45 (encB bd) = true → sz bd ≤ 400 → Dr M7 p → Fr p M2 M7 → wS C (.seq (.ret (.tup (.cons (.var 6) (.cons (.ands (.cons (.cmp .le (.call fde (.cons (.var 6) .nil)) (.int 16)) (.cons (.cmp .le (.call fn (.cons (.var 6) .nil)) (.int 120)) .nil))) .nil)))) .skip) ⟨nx, rt, bk, ct⟩ [some (.ref p.1), some (encBk b), some (.str nm), some (.ref q), none, some (.int wy), some (encB bd), u7] M7 := by
        intro bd u7 M7 g1 g2' g3 d7 F7
        (repeat decreasing_trivial_pre_omega)
        refine tail bd M7 _ g1 g2' g3 d7 F7 fun M8 s8 => ?_
        (repeat decreasing_trivial_pre_omega)
        refine i_ifd (fun h => ?_) (fun h => ?_)
        · (repeat decreasing_trivial_pre_omega)
          obtain ⟨j, hj⟩ := g1
          refine hN M8 bd (b.n + 1) _ _ _ _ _ (by omega) hj fun m9 M9 s9 h9 h9' => ?_
          (repeat decreasing_trivial_pre_omega)
          exact fin bd M7 M8 M9 m9 ⟨j, hj⟩ g2' d7 F7 s8 s9 (by omega) h9'
        · (repeat decreasing_trivial_pre_omega)
          exact fin0 bd M7 M8 g1 g2' d7 F7 s8 (by omega)
      refine forL_nat (fun i σ M' => ∃ (bd : Bd) (u7 : Option U), σ = [some (.ref p.1), some (encBk b), some (.str nm), some (.ref q), none, some (.int wy), some (encB bd), u7] ∧ BB b bd ∧ K1.pl (27 + 2 * i) (encB bd) = true ∧ sz bd ≤ 71 ∧ Dr M' p ∧ Fr p M2 M') m ⟨r.2, none, rfl, hrb, hrp, hrs, d6, F5.trans f6⟩ ?_ ?_
      · intro i σ M7 k hi ⟨bd, u7, e1, g1, g2, g3, d7, F7⟩ hk
        subst e1
        have hsz : sz (.see "x" (List.replicate (b.n + 1) bd)) = 1 + (b.n + 1) * sz bd := by
          show 1 + sz.szs _ = _
          rw [szs_rep]
        have hm5 : (b.n + 1) * sz bd ≤ 5 * 71 := Nat.mul_le_mul (by omega) g3
        unfold encBk
        (repeat decreasing_trivial_pre_omega)
        intro c c0
        (repeat decreasing_trivial_pre_omega)
        refine o_rep um_same (by omega) (by omega) ?_ ?_
        · show 1 * _ ≤ _
          omega
        intro c2 c20
        (repeat decreasing_trivial_pre_omega)
        rw [flat_rep, show ((b.n : Int) + 1).toNat = b.n + 1 by omega]
        have e0 : U.tup [.str "see", .str "x", .tup (List.replicate (b.n + 1) (encB bd))] = encB (.see "x" (List.replicate (b.n + 1) bd)) := by simp only [encB, encBs_map, List.map_replicate]
        rw [e0]
        have c1p := d7.ne c0
        have dc := d7.upd (o := .lst [encB bd]) c0
        have Fc : Fr p M2 (um M7 c (.lst [encB bd])) := F7.upd (F7.non c1p c0)
        have c2p := dc.ne c20
        have d8 := dc.upd (o := .lst (List.replicate (b.n + 1) (encB bd))) c20
        have F8 : Fr p M2 (um (um M7 c (.lst [encB bd])) c2 (.lst (List.replicate (b.n + 1) (encB bd)))) := Fc.upd (Fc.non c2p c20)
        generalize um (um M7 c (.lst [encB bd])) c2 (.lst (List.replicate (b.n + 1) (encB bd))) = M8 at *
        have g4 := bb_see g1
        have g5 := pl_see (k := b.n + 1) (by omega) g2
        obtain ⟨j, hj⟩ := g4
        (repeat decreasing_trivial_pre_omega)
        refine hN M8 _ (b.n + 1) _ _ _ _ _ (by omega) hj fun m9 M9 s9 h9 h9' => ?_
        (repeat decreasing_trivial_pre_omega)
        refine i_ifd (fun h => ?_) (fun h => ?_)
        · refine z_seq (z_brk ?_)
          exact done_ _ _ M9 ⟨j, hj⟩ (K1.pl_le g5 (by omega)) (by omega) (d8.sub s9) (F8.trans s9.fr)
        · (repeat decreasing_trivial_pre_omega)
          exact hk _ _ trivial ⟨_, _, rfl, ⟨j, hj⟩, K1.pl_le g5 (by omega), by omega, d8.sub s9, F8.trans s9.fr⟩
      · intro σ M7 ⟨bd, u7, e1, g1, g2, g3, d7, F7⟩
        subst e1
        exact done_ bd u7 M7 g1 (K1.pl_le g2 (by omega)) (by omega) d7 F7
    generalize S.seq (.for_ (.one 7) (.iRange (.call fdr (.cons (.var 0) (.cons (.int 4) .nil)))) (.seq (.asg 6 (.tup (.cons (.str "see") (.cons (.str "x") (.cons (.blt .tuple (.cons (.bin .mul (.lst (.cons (.var 6) .nil)) (.bin .add (.ix (.var 1) (.int 0)) (.int 1))) .nil)) .nil))))) (.seq (.ifs (.cmp .gt (.call fn (.cons (.var 6) .nil)) (.int 60)) (.seq .brk .skip) .skip) .skip))) .skip = T9 at key ⊢
    rcases w34 with rfl | rfl
    · (repeat decreasing_trivial_pre_omega)
      exact key 3 (.inl rfl)
    · (repeat decreasing_trivial_pre_omega)
      exact key 4 (.inr rfl)
  have w3' : ¬ (way : Int) = 3 := by omega
  have w4' : ¬ (way : Int) = 4 := by omega
  (repeat decreasing_trivial_pre_omega)
  refine tail r.2 M5 _ hrb (K1.pl_le hrp (by decide)) (by omega) d5 F5 fun M8 s8 => ?_
  (repeat decreasing_trivial_pre_omega)
  refine i_ifd (fun h => ?_) (fun h => ?_)
  · (repeat decreasing_trivial_pre_omega)
    refine hN M8 r.2 (b.n + 1) _ _ _ _ _ (by omega) (hb.bp r hr) fun m9 M9 s9 h9 h9' => ?_
    (repeat decreasing_trivial_pre_omega)
    exact fin r.2 M5 M8 M9 m9 hrb (K1.pl_le hrp (by decide)) d5 F5 s8 s9 (by omega) h9'
  · (repeat decreasing_trivial_pre_omega)
    exact fin0 r.2 M5 M8 hrb (K1.pl_le hrp (by decide)) d5 F5 s8 (by omega)
end
end Pl.K2

set_option maxHeartbeats 2000000
/-! k02: the law -/
namespace Pl
/-- a suite without its first so many statements -/
def S.dr : S → Nat → S
  | s, 0 => s
  | .seq _ b, n + 1 => b.dr n
  | s, _ + 1 => s
end Pl
namespace Pl.K2
open PySem L2
section
variable {C : CE} {nx bk ct : SU → Hm → Prop} {rt : QU} {M : Hm}
theorem eqW_enc {b1 b2 : Bd} {T : Bool → Hm → Prop} (h1 : okU (encB b1) = true) (h2 : okU (encB b2) = true) (q : T (decide (encB b1 = encB b2)) M) : eqW (encB b1) (encB b2) M T := by
  cases b1 <;> cases b2 <;> simp only [encB] at h1 h2 q ⊢ <;> exact eq_tup h1 h2 q
variable {ferr fwith foth fpick fbo fno fln flw fmw frare fdraw fbook fbegin : Nat}
def bookSt (sc : U) (p : Addr × Addr) (b : Bk) (u3 u4 u5 u6 u7 u8 u9 : Option U) : SU := [some sc, some (.ref p.1), some (encBk b), u3, u4, u5, u6, u7, u8, u9]
theorem law_tail (hEwi : ErrWith C ferr) (hEb : ErrBody C ferr) (hLW : LWithC C fwith) (hO : OtherC C foth) (hp : PickC C fpick) (hBo : BodyOfX C fbo) (hNo : NodC C fno) (hLn : NodesC C fln)
    {sc : U} {p : Addr × Addr} {b : Bk} {u3 u4 : Option U} (hb : BkG b 13) (hn : b.n ≤ 4) (hl : b.heads.length ≤ 5) (d : Dr M p) (hq : ∀ M', rt (.bl true) M') :
    wS C (S.dr (B_law ferr fwith foth fpick fbo fno fln flw fmw frare fdraw fbook fbegin) 6) ⟨nx, rt, bk, ct⟩ (bookSt sc p b u3 u4 none none none none none) M := by
  have hlim : LIM = 100000 := rfl
  have hr8 := hb.r8
  have hr0 := hb.r0
  have hm : ∀ f ∈ b.names, nmS f = true := fun f hf => by
    obtain ⟨r, hr, rfl⟩ := List.mem_map.mp hf
    exact (hb.ok.rows r hr).1
  unfold B_law bookSt
  dsimp only [S.dr]
  unfold encBk
  (repeat decreasing_trivial_pre_omega)
  refine forL_by (enc := encRow) (fun don rest σ M' => ∃ u5, σ = [some sc, some (.ref p.1), some (encBk b), u3, u4, u5, none, none, none, none] ∧ Dr M' p) b.rows ⟨none, rfl, d⟩ ?_ ?_
  · intro don x rest σ M1 k ed ⟨u5, e1, d1⟩ hk
    subst e1
    have hx : x ∈ b.rows := by rw [← ed]; simp
    have hxs := hb.sz x hx
    have hxp : okU (encB x.2) = true := K1.pl_okU (K1.bd_pl hn (fun f c h => h.1) hm (fun f h => h) (hb.bp x hx)) (by decide)
    have hxn := nm_s (hb.ok.rows x hx).1
    unfold encRow
    (repeat decreasing_trivial_pre_omega)
    refine hNo M1 x.2 _ (by omega) fun M2 s2 => ?_
    (repeat decreasing_trivial_pre_omega)
    refine hLn M2 x.2 (b.n + 1) _ _ _ _ _ (by omega) (hb.bp x hx) fun m M3 s3 h3 h3' => ?_
    have em : m = sz x.2 := by omega
    subst em
    (repeat decreasing_trivial_pre_omega)
    refine hBo M3 b x.1 _ _ (by omega) (fun bd e M4 s4 => ?_) fun e => ?_
    · rw [kfind_row hb.nd hx] at e
      cases e
      (repeat decreasing_trivial_pre_omega)
      refine eqW_enc hxp hxp ?_
      (repeat decreasing_trivial_pre_omega)
      exact hk _ _ trivial ⟨_, rfl, d1.sub ((s2.trans s3).trans s4)⟩
    · rw [kfind_row hb.nd hx] at e
      cases e
  · intro σ M1 ⟨u5, e1, d1⟩
    subst e1
    unfold encBk
    (repeat decreasing_trivial_pre_omega)
    refine compL_by (enc := encRow) (fun don rest acc M' => M' = M1 ∧ acc = don.map fun x => U.str x.1) b.rows ⟨rfl, rfl⟩ ?_ ?_
    · intro don x rest acc M2 k ed ⟨e1, e2⟩ hk
      subst e1 e2
      have hdl : don.length + rest.length + 1 = b.rows.length := by rw [← ed]; simp; omega
      unfold encRow
      (repeat decreasing_trivial_pre_omega)
      exact hk _ _ trivial (fun _ => by rw [List.length_map]; omega) ⟨rfl, by simp⟩
    intro acc M2 ⟨e1, e2⟩
    subst e1 e2
    intro q q0
    have d2 := d1.upd (o := .lst (b.rows.map fun x => U.str x.1)) q0
    have hq1 : um M2 q (.lst (b.rows.map fun x => U.str x.1)) q = some (.lst (b.rows.map fun x => U.str x.1)) := um_same
    have qp := d1.ne q0
    generalize um M2 q (.lst (b.rows.map fun x => U.str x.1)) = M3 at *
    (repeat decreasing_trivial_pre_omega)
    refine hp M3 p (.ref q) _ _ d2 (.inr ⟨q, rfl, qp, hq1⟩) (map_ne hr0) (by rw [List.length_map]; omega) fun x M5 hx d5 f5 => ?_
    obtain ⟨r, hr, rfl⟩ := List.mem_map.mp hx
    have hrn : r.1 ∈ b.names := List.mem_map.mpr ⟨r, hr, rfl⟩
    have hrl := nm_s (hm _ hrn)
    (repeat decreasing_trivial_pre_omega)
    refine hO M5 p b r.1 _ hb hn d5 fun bd ok M6 ho d6 f6 => ?_
    obtain ⟨hpl, hok⟩ := ho
    have hbw := book_with (bd := bd) hb hn hl hrn
    rw [← hok] at hbw
    have hplw := with_pl (nm := r.1) hb hn hl hpl
    have hplw0 := with_pl (nm := "nobodyis") hb hn hl hpl
    have hnob := kfind_none (no_nobody hb)
    have hsm := kfind_some hrn
    have last : ∀ (M' : Hm) (u9 : U), wS C (S.dr (B_law ferr fwith foth fpick fbo fno fln flw fmw frare fdraw fbook fbegin) 11) ⟨nx, rt, bk, ct⟩ [some sc, some (.ref p.1), some (encBk b), u3, u4, u5, some (.str r.1), some (encB bd), some (.bl ok), some u9] M' := by
      intro M' u9
      unfold B_law
      dsimp only [S.dr]
      (repeat decreasing_trivial_pre_omega)
      refine hEwi M' b "nobodyis" bd _ (by decide +kernel) (by omega) (K1.pl_le hplw0 (by decide)) (fun z => ?_) (fun z => ?_) fun _ M7 s7 => ?_
      · rw [hnob] at z; cases z
      · rw [hnob] at z; cases z
      (repeat decreasing_trivial_pre_omega)
      refine c_neb (show okM (erT "NoRule" (.str "nobodyis")) (erT "NoRule" (.str "nobodyis")) = true by decide +kernel) ?_
      (repeat decreasing_trivial_pre_omega)
      refine hEb M7 b "nobodyis" bd _ (by decide +kernel) hnob fun M8 s8 => ?_
      (repeat decreasing_trivial_pre_omega)
      refine c_eqb (show okM (erT "NoRule" (.str "nobodyis")) (erT "NoRule" (.str "nobodyis")) = true by decide +kernel) ?_
      rw [decide_eq_true (show erT "NoRule" (.str "nobodyis") = U.tup [.str "NoRule", .str "nobodyis", .bl true, .bl true] from rfl)]
      exact hq M8
    unfold B_law at last
    dsimp only [S.dr] at last
    cases ok with
    | true =>
      (repeat decreasing_trivial_pre_omega)
      refine hLW M6 b r.1 bd _ (by omega) fun M7 s7 => ?_
      (repeat ((fail_if_success (with_reducible refine Pl.z_ifs ?_)); decreasing_trivial_pre_omega))
      refine z_cutR fun R eR => ?_
      have last : ∀ M', R [some sc, some (.ref p.1), some (encBk b), u3, u4, u5, some (.str r.1), some (encB bd), some (.bl true), some (okT (encBk (withB b r.1 bd)))] M' := fun M' => by rw [eR]; exact last M' _
      (repeat decreasing_trivial_pre_omega)
      refine hEwi M7 b r.1 bd _ (by omega) (by omega) (K1.pl_le hplw (by decide)) (fun _ _ M8 s8 => ?_) (fun _ z => ?_) fun z => ?_
      · (repeat decreasing_trivial_pre_omega)
        refine c_neb (show okM (okT (encBk (withB b r.1 bd))) (okT (encBk (withB b r.1 bd))) = true from okM_self (okT_okb (K1.pl_le hplw (by decide)))) ?_
        (repeat decreasing_trivial_pre_omega)
        exact last M8
      · rw [hbw] at z; cases z
      · rw [z] at hsm; cases hsm
    | false =>
      (repeat ((fail_if_success (with_reducible refine Pl.z_ifs ?_)); decreasing_trivial_pre_omega))
      refine z_cutR fun R eR => ?_
      have last : ∀ M', R [some sc, some (.ref p.1), some (encBk b), u3, u4, u5, some (.str r.1), some (encB bd), some (.bl false), some (erT "BadBody" (.str r.1))] M' := fun M' => by rw [eR]; exact last M' _
      (repeat decreasing_trivial_pre_omega)
      refine hEwi M6 b r.1 bd _ (by omega) (by omega) (K1.pl_le hplw (by decide)) (fun _ z => ?_) (fun _ _ M8 s8 => ?_) fun z => ?_
      · rw [hbw] at z; cases z
      · (repeat decreasing_trivial_pre_omega)
        refine c_neb (show okM (erT "BadBody" (.str r.1)) (erT "BadBody" (.str r.1)) = true from okM_self (erT_okb (by decide +kernel) hrl.1)) ?_
        (repeat decreasing_trivial_pre_omega)
        exact last M8
      · rw [z] at hsm; cases hsm
theorem law_mid (hEW : ErrWorlds C ferr) (hEwi : ErrWith C ferr) (hEb : ErrBody C ferr) (hLW : LWithC C fwith) (hO : OtherC C foth) (hp : PickC C fpick) (hBo : BodyOfX C fbo) (hNo : NodC C fno) (hLn : NodesC C fln) (hLws : LWorldsC C flw) (hMw : ManyC C fmw)
    {sc : U} {p : Addr × Addr} {b : Bk} (hb : BkG b 13) (hn : b.n ≤ 4) (hl : b.heads.length ≤ 5) (d : Dr M p) (hq : ∀ M', rt (.bl true) M') :
    wS C (S.dr (B_law ferr fwith foth fpick fbo fno fln flw fmw frare fdraw fbook fbegin) 3) ⟨nx, rt, bk, ct⟩ (bookSt sc p b none none none none none none none) M := by
  have hlim : LIM = 100000 := rfl
  have hpow : (b.n + 1) ^ b.heads.length ≤ 50000 := by
    refine Nat.le_trans (Nat.pow_le_pow_left (show b.n + 1 ≤ 5 by omega) _) (Nat.le_trans (Nat.pow_le_pow_right (by decide) hl) (by decide))
  have tail : ∀ M' u4, Dr M' p → wS C (S.dr (B_law ferr fwith foth fpick fbo fno fln flw fmw frare fdraw fbook fbegin) 6) ⟨nx, rt, bk, ct⟩ (bookSt sc p b (some (.int (((b.n + 1) ^ b.heads.length : Nat) : Int))) u4 none none none none none) M' := fun M' u4 d' => law_tail hEwi hEb hLW hO hp hBo hNo hLn hb hn hl d' hq
  unfold B_law bookSt
  dsimp only [S.dr]
  unfold B_law bookSt at tail
  dsimp only [S.dr] at tail
  (repeat decreasing_trivial_pre_omega)
  refine hMw M b _ hpow (by omega) (by omega) ?_
  (repeat ((fail_if_success (with_reducible refine Pl.z_ifs ?_)); decreasing_trivial_pre_omega))
  refine hEW M b _ hpow (by omega) (by omega) (fun h4 M1 s1 => ?_) fun h4 M1 s1 => ?_
  · have h' : ¬ (400 : Int) < (((b.n + 1) ^ b.heads.length : Nat) : Int) := by omega
    (repeat ((fail_if_success (with_reducible refine Pl.z_ifs ?_)); decreasing_trivial_pre_omega))
    refine z_cutR fun R eR => ?_
    have tail : ∀ M', Dr M' p → R [some sc, some (.ref p.1), some (encBk b), some (.int (((b.n + 1) ^ b.heads.length : Nat) : Int)), some (okT (.tup ((worldsT b.n b.heads.length).map encWd))), none, none, none, none, none] M' := fun M' d' => by rw [eR]; exact tail M' _ d'
    unfold okT at tail ⊢
    (repeat decreasing_trivial_pre_omega)
    intro q q0
    have h2 : um M1 q (.lst ((worldsT b.n b.heads.length).map encWd)) q = some (.lst ((worldsT b.n b.heads.length).map encWd)) := um_same
    have d2 := (d.sub s1).upd (o := .lst ((worldsT b.n b.heads.length).map encWd)) q0
    generalize um M1 q (.lst ((worldsT b.n b.heads.length).map encWd)) = M2 at *
    (repeat decreasing_trivial_pre_omega)
    refine hLws M2 b _ hpow (by omega) (by omega) fun r M3 s3 h3 => ?_
    have hok : okL ((worldsT b.n b.heads.length).map encWd) = true := okL_of fun x hx => by
      obtain ⟨w, hw, rfl⟩ := List.mem_map.mp hx
      show (w.map U.int).all (U.ok 58) = true
      refine List.all_eq_true.mpr fun y hy => ?_
      obtain ⟨i, hi, rfl⟩ := List.mem_map.mp hy
      unfold U.ok
      rfl
    (repeat decreasing_trivial_pre_omega)
    refine eq_lst (s3 _ _ h2) h3 hok hok ?_
    (repeat decreasing_trivial_pre_omega)
    exact tail M3 (d2.sub s3)
  · have h' : (400 : Int) < (((b.n + 1) ^ b.heads.length : Nat) : Int) := by omega
    (repeat ((fail_if_success (with_reducible refine Pl.z_ifs ?_)); decreasing_trivial_pre_omega))
    refine z_cutR fun R eR => ?_
    have tail : R [some sc, some (.ref p.1), some (encBk b), some (.int (((b.n + 1) ^ b.heads.length : Nat) : Int)), some (erT "TooMany" (.int 400)), none, none, none, none, none] M1 := by rw [eR]; exact tail M1 _ (d.sub s1)
    (repeat decreasing_trivial_pre_omega)
    refine c_neb (show okM (erT "TooMany" (.int 400)) (erT "TooMany" (.int 400)) = true by decide +kernel) ?_
    (repeat decreasing_trivial_pre_omega)
    exact tail
theorem law_p (hEW : ErrWorlds C ferr) (hEwi : ErrWith C ferr) (hEb : ErrBody C ferr) (hLW : LWithC C fwith) (hO : OtherC C foth) (hp : PickC C fpick) (hBo : BodyOfX C fbo) (hNo : NodC C fno) (hLn : NodesC C fln) (hLws : LWorldsC C flw) (hMw : ManyC C fmw)
    (hr : RareC C frare) (hd : DrawC C fdraw) (hBk : BookC C fbook) {ns : List Int}
    (hB : ∀ Q : QU, (∀ (p : Addr × Addr) M0, Sub M M0 → Dr M0 p → Q (.ref p.1) M0) → C fbegin [.rol (ns.map U.int)] M Q) (hq : ∀ M', rt (.bl true) M') :
    wS C (B_law ferr fwith foth fpick fbo fno fln flw fmw frare fdraw fbook fbegin) ⟨nx, rt, bk, ct⟩ (startU 10 [.rol (ns.map U.int)]) M := by
  have hlim : LIM = 100000 := rfl
  have mid : ∀ p b M', BkG b 13 → b.n ≤ 4 → b.heads.length ≤ 5 → Dr M' p → wS C (S.dr (B_law ferr fwith foth fpick fbo fno fln flw fmw frare fdraw fbook fbegin) 3) ⟨nx, rt, bk, ct⟩ (bookSt (.rol (ns.map U.int)) p b none none none none none none none) M' := fun p b M' h1 h2 h3 h4 => law_mid hEW hEwi hEb hLW hO hp hBo hNo hLn hLws hMw h1 h2 h3 h4 hq
  unfold B_law bookSt at mid
  dsimp only [S.dr] at mid
  unfold B_law
  (repeat decreasing_trivial_pre_omega)
  refine hB _ fun p M0 s0 d0 => ?_
  have mid := mid p
  (repeat decreasing_trivial_pre_omega)
  refine hBk M0 p 4 3 3 12 _ (.inr rfl) (by decide) (by decide) (by decide) (by decide) (by decide) (by decide) d0 fun b M2 hb hn hl hrl d2 f2 => ?_
  (repeat ((fail_if_success (with_reducible refine Pl.z_ifs ?_)); decreasing_trivial_pre_omega))
  refine z_cutR fun R eR => ?_
  have key : ∀ b M', BkG b 13 → b.n ≤ 4 → b.heads.length ≤ 5 → Dr M' p → R [some (.rol (ns.map U.int)), some (.ref p.1), some (encBk b), none, none, none, none, none, none, none] M' := fun b M' h1 h2 h3 h4 => by
    rw [eR]
    exact mid b M' h1 h2 h3 h4
  (repeat decreasing_trivial_pre_omega)
  refine hr M2 p 3 _ d2 (by decide) (by decide) fun c M3 d3 f3 => ?_
  cases c with
  | false =>
    (repeat decreasing_trivial_pre_omega)
    exact key b M3 hb hn (by omega) d3
  | true =>
    unfold encBk
    (repeat decreasing_trivial_pre_omega)
    refine hd.lt M3 p 6 _ d3 (by decide) (by decide) fun m M4 hm d4 f4 => ?_
    (repeat decreasing_trivial_pre_omega)
    rw [show [U.str "a", .str "b", .str "c", .str "s", .str "m"] = (["a", "b", "c", "s", "m"] : List Str).map U.str from rfl, cutU_take, ← List.map_take]
    have hnm : ∀ x ∈ (["a", "b", "c", "s", "m"] : List Str), nmS x = true := by decide +kernel
    have hnd : (["a", "b", "c", "s", "m"] : List Str).Nodup := by decide +kernel
    refine key { b with heads := (["a", "b", "c", "s", "m"] : List Str).take m } M4 ⟨⟨hb.ok.n0, fun h hh => hnm h (List.mem_of_mem_take hh), hb.ok.rows, by show (List.take m _).length ≤ 100; rw [List.length_take]; simp; omega, hb.ok.rl⟩, hb.n1, hb.r0, hb.r8, hb.bp, hb.nd, hb.sz, hnd.sublist (List.take_sublist _ _)⟩ hn (by show (List.take m _).length ≤ 5; rw [List.length_take]; simp; omega) d4
end
end Pl.K2

set_option maxHeartbeats 1000000
/-! k02: joined -/
namespace K02
open PySem L2 Pl
def depth : Nat := 60
theorem c_draw (k : Nat) : DrawC (Cs T (k + 1)) 15 := fun M p many Q d h1 h2 hq => cs15 rfl (draw_ok d h1 h2 fun r M' r0 r1 d' fr => ⟨M', Pl.Sub.refl _, hq r M' r0 r1 d' (Fr.of_eq fr)⟩)
theorem c_pick (k : Nat) : PickC (Cs T (k + 2)) 16 := fun M p row us Q d hr h1 h2 hq => cs16 rfl (pick_ok (c_draw k) d hr h1 h2 fun x M' hx d' fr => ⟨M', Pl.Sub.refl _, hq x M' hx d' fr⟩)
theorem c_rare (k : Nat) : RareC (Cs T (k + 2)) 17 := fun M p many Q d h1 h2 hq => cs17 rfl (rare_ok (c_draw k) d h1 h2 fun b M' d' fr => ⟨M', Pl.Sub.refl _, hq b M' d' fr⟩)
theorem c_shuf (k : Nat) : ShufU (Cs T (k + 2)) 18 := fun M p r us Q d hr hl hq => cs18 rfl (shuffled_ok (c_draw k) d hr hl fun q ws M' h1 h2 h3 h4 h5 h6 h7 => ⟨M', Pl.Sub.refl _, hq q ws M' h1 h2 h3 h4 h5 h6 h7⟩)
theorem c_files (k : Nat) : NamesLC (Cs T (k + 1)) 19 20 := fun M Q hq => cs19 rfl (by
  unfold b19
  (repeat decreasing_trivial_pre_omega)
  refine ⟨⟨_, rfl⟩, ?_⟩
  (repeat decreasing_trivial_pre_omega)
  refine ⟨by decide +kernel, by decide +kernel, fun p hp => ⟨_, Pl.Sub.refl _, hq p _ _ (sub_new (Pl.Sub.refl _) hp) hp um_same (by decide +kernel) (by decide +kernel) ?_⟩⟩
  unfold ok1
  decide +kernel)
theorem c_srcs (k : Nat) : NamesLC (Cs T (k + 1)) 20 10 := fun M Q hq => cs20 rfl (by
  unfold b20
  (repeat decreasing_trivial_pre_omega)
  refine ⟨⟨_, rfl⟩, ?_⟩
  (repeat decreasing_trivial_pre_omega)
  refine ⟨by decide +kernel, by decide +kernel, fun p hp => ⟨_, Pl.Sub.refl _, hq p _ _ (sub_new (Pl.Sub.refl _) hp) hp um_same (by decide +kernel) (by decide +kernel) ?_⟩⟩
  unfold ok1
  decide +kernel)
theorem c_rules (k : Nat) : NamesLC (Cs T (k + 1)) 21 16 := fun M Q hq => cs21 rfl (by
  unfold b21
  (repeat decreasing_trivial_pre_omega)
  refine ⟨⟨_, rfl⟩, ?_⟩
  (repeat decreasing_trivial_pre_omega)
  refine ⟨by decide +kernel, by decide +kernel, fun p hp => ⟨_, Pl.Sub.refl _, hq p _ _ (sub_new (Pl.Sub.refl _) hp) hp um_same (by decide +kernel) (by decide +kernel) ?_⟩⟩
  unfold ok1
  decide +kernel)
theorem c_body : ∀ (i k : Nat) (deep : Int), 0 ≤ deep → 9 - deep ≤ i → BodyC (Cs T (k + i + 3)) 22 deep
  | 0, k, deep, h0, h1 => fun M p s q n pp pa ps left j Q hj hn0 hn d hs ha hq => cs22 rfl (body_ok (c_draw (k + 1)) (c_pick k) h0 (fun z => absurd z (by omega)) hj hn0 hn d hs ha fun b M' hb hbn d' fr => ⟨M', Pl.Sub.refl _, hq b M' hb hbn d' fr⟩)
  | i + 1, k, deep, h0, h1 => fun M p s q n pp pa ps left j Q hj hn0 hn d hs ha hq => cs22 rfl (body_ok (c_draw (k + i + 2)) (c_pick (k + i + 1)) h0 (fun _ => c_body i k (deep + 1) (by omega) (by omega)) hj hn0 hn d hs ha fun b M' hb hbn d' fr => ⟨M', Pl.Sub.refl _, hq b M' hb hbn d' fr⟩)
theorem c_tidy (k : Nat) : TidyC (Cs T (k + 13)) 23 := fun M p n s R nodes Q e1 e2 h0 h1 h2 h3 d hq => cs23 rfl (tidy_ok (c_shuf (k + 10)) (c_body 9 k 0 (by decide) (by decide)) (c_rare (k + 10)) (c_draw (k + 11)) (c_srcs (k + 11)) (c_rules (k + 11)) (c_files (k + 11)) e1 e2 h0 h1 h2 h3 d fun b M' g1 g2 g3 g4 g5 g6 => ⟨M', Pl.Sub.refl _, hq b M' g1 g2 g3 g4 g5 g6⟩)
theorem c_wild (k : Nat) : TidyC (Cs T (k + 13)) 24 := fun M p n s R nodes Q e1 e2 h0 h1 h2 h3 d hq => cs24 rfl (wild_ok (c_body 9 k 0 (by decide) (by decide)) (c_rare (k + 10)) (c_pick (k + 10)) (c_shuf (k + 10)) (c_srcs (k + 11)) (c_rules (k + 11)) (c_files (k + 11)) e1 e2 h0 h1 h2 h3 d fun b M' g1 g2 g3 g4 g5 g6 => ⟨M', Pl.Sub.refl _, hq b M' g1 g2 g3 g4 g5 g6⟩)
theorem c_kids (k : Nat) : KidsC (Cs T (k + 1)) 25 := fun M b Q hq => cs25 rfl (kids_ok fun r M' h1 h2 h3 => ⟨M', Pl.Sub.refl _, hq r M' h1 h2 h3⟩)
theorem c_wo : ∀ (j k : Nat), WoC (Cs T (k + j + 1)) 26 j
  | 0, k => fun M b n pp pa ps Q hn hb hq => cs26 rfl (without_ok (fun i e => by cases e) hn hb fun b' M' h1 h2 h3 => ⟨M', Pl.Sub.refl _, hq b' M' h1 h2 h3⟩)
  | j + 1, k => fun M b n pp pa ps Q hn hb hq => cs26 rfl (without_ok (fun i e => by cases e; exact c_wo j k) hn hb fun b' M' h1 h2 h3 => ⟨M', Pl.Sub.refl _, hq b' M' h1 h2 h3⟩)
theorem c_putf (k : Nat) : PutFC (Cs T (k + 2)) 27 := fun M b n j pp pa ps Q hn hpp hb hq => cs27 rfl (putf_ok (c_kids k) hn hpp hb fun r l M' h1 h2 h3 h4 h5 => ⟨M', Pl.Sub.refl _, hq r l M' h1 h2 h3 h4 h5⟩)
theorem c_nodes (k : Nat) : NodesC (Cs T (k + 2)) 28 := fun M b n j pp pa ps Q hn hb hq => cs28 rfl (nodes_ok (c_kids k) hn hb fun m M' h1 h2 h3 => ⟨M', Pl.Sub.refl _, hq m M' h1 h2 h3⟩)
theorem c_spoil (k : Nat) : SpoilC (Cs T (k + 11)) 29 9 := fun M p b Q hb d hq => cs29 rfl (spoilt_ok (c_rare (k + 8)) (c_pick (k + 8)) (c_draw (k + 9)) (c_nodes (k + 8)) (c_wo 9 k) (c_putf (k + 8)) (c_files (k + 9)) hb d fun b' M' g1 g2 g3 g4 g5 g6 => ⟨M', Pl.Sub.refl _, hq b' M' g1 g2 g3 g4 g5 g6⟩)
theorem c_book (k : Nat) : BookC (Cs T (k + 14)) 30 := fun M p K S R nodes Q e1 e2 h1 h2 h3 h4 h5 d hq => cs30 rfl (book_ok (c_spoil (k + 2)) (c_tidy k) (c_wild k) (c_draw (k + 12)) e1 e2 h1 h2 h3 h4 h5 d fun b M' g1 g2 g3 g4 g5 g6 => ⟨M', Pl.Sub.refl _, hq b M' g1 g2 g3 g4 g5 g6⟩)
theorem c_intp (k : Nat) : K1.IntP (Cs T (k + 1)) 0 := fun M n u Q h hq => cs0 rfl (K1.is_int_p h ⟨M, Pl.Sub.refl _, hq⟩)
theorem c_namep (k : Nat) : K1.NameP (Cs T (k + 1)) 1 := fun M n u Q h hq => cs1 rfl (K1.is_name_p h fun M' s => ⟨M', Pl.Sub.refl _, hq M' s⟩)
theorem c_putp (k : Nat) : K1.PutP (Cs T (k + 2)) 2 := fun M a n u Q h hq => cs2 rfl (K1.is_put_p (c_intp k) h ⟨M, Pl.Sub.refl _, hq⟩)
theorem c_namesp (k : Nat) : K1.NamesP (Cs T (k + 2)) 3 := fun M n lo hi u Q h hq => cs3 rfl (K1.are_names_p (c_namep k) h fun M' s => ⟨M', Pl.Sub.refl _, hq M' s⟩)
theorem c_nextp (k : Nat) : K1.NextP (Cs T (k + 3)) 4 := fun M n m ns u Q h1 h2 h3 q0 q1 => cs4 rfl (K1.next_p (c_namep (k + 1)) (c_putp k) h1 h2 h3 (fun e M' s => ⟨M', Pl.Sub.refl _, q0 e M' s⟩) fun ps e M' s => ⟨M', Pl.Sub.refl _, q1 ps e M' s⟩)
theorem c_chkp (k : Nat) : K1.ChkP (Cs T (k + 4)) 5 := fun M n ns u Q h1 h2 h3 hq => cs5 rfl (K1.check_body_p (c_nextp k) h1 h2 h3 fun M' s => ⟨M', Pl.Sub.refl _, hq M' s⟩)
theorem c_rulesp (k : Nat) : K1.RulesP (Cs T (k + 3)) 8 := fun M n u Q h hq => cs8 rfl (K1.are_rules_p (c_namesp k) h fun M' s => ⟨M', Pl.Sub.refl _, hq M' s⟩)
theorem c_bookp (k : Nat) : K1.BookP (Cs T (k + 5)) 9 := fun M u Q h hq => cs9 rfl (K1.is_book_p (c_chkp k) (c_rulesp (k + 1)) (c_namesp (k + 2)) (c_intp (k + 3)) h fun M' s => ⟨M', Pl.Sub.refl _, hq M' s⟩)
theorem c_lim (k : Nat) : K2.LimC (Cs T (k + 1)) 6 := fun M b Q h hq => cs6 rfl (K2.limits_ok h fun M' s => ⟨M', Pl.Sub.refl _, hq M' s⟩)
theorem c_nod (k : Nat) : K2.NodC (Cs T (k + 2)) 7 := fun M b Q h hq => cs7 rfl (K2.nodes_of_ok (c_lim k) h fun M' s => ⟨M', Pl.Sub.refl _, hq M' s⟩)
theorem c_bodyof (k : Nat) : K2.BodyOfX (Cs T (k + 1)) 10 := fun M b r Q E h hq hE => cx10 rfl (K2.body_of_ok h (fun bd e M' s => ⟨M', Pl.Sub.refl _, hq bd e M' s⟩) fun e d σ M' s h1 => hE e d M' s h1)
theorem c_withb (k : Nat) : K2.WithX (Cs T (k + 6)) 11 := fun M b r bd Q E h1 h2 h3 q e1 e0 => cx11 rfl (K2.with_body_ok (C := ⟨CsX T (k + 5), fun c dx _ M1 => E c dx M1, none⟩) (c_bookp k) (c_bodyof (k + 4)) h1 h2 h3 (fun a c M' s => ⟨M', Pl.Sub.refl _, q a c M' s⟩) (fun a c d σ M' s h => e1 a c d M' s h) fun a d σ M' s h => e0 a d M' s h)
theorem c_count (k : Nat) : K2.ManyC (Cs T (k + 1)) 12 := fun M b Q h1 h2 h3 hq => cs12 rfl (K2.count_ok h1 h2 h3 ⟨M, Pl.Sub.refl _, hq⟩)
theorem c_worlds (k : Nat) : K2.WorldsX (Cs T (k + 2)) 13 := fun M b Q E h1 h2 h3 hq hE => cx13 rfl (K2.worlds_ok (C := ⟨CsX T (k + 1), fun c dx _ M1 => E c dx M1, none⟩) (c_count k) h1 h2 h3 (fun a M' s => ⟨M', Pl.Sub.refl _, hq a M' s⟩) fun a d σ M' s h => hE a d M' s h)
theorem c_longer (k : Nat) : K2.LongC (Cs T (k + 1)) 31 := fun M q ws n Q h1 h2 h3 h4 hq => cs31 rfl (K2.longer_ok h1 h2 h3 h4 fun r M' g1 g2 g3 => ⟨M', Pl.Sub.refl _, hq r M' g1 g2 g3⟩)
theorem c_lworlds (k : Nat) : K2.LWorldsC (Cs T (k + 2)) 32 := fun M b Q h1 h2 h3 hq => cs32 rfl (K2.lworlds_ok (c_longer k) h1 h2 h3 fun r M' g1 g2 => ⟨M', Pl.Sub.refl _, hq r M' g1 g2⟩)
theorem c_lwith (k : Nat) : K2.LWithC (Cs T (k + 1)) 33 := fun M b r bd Q h hq => cs33 rfl (K2.lwith_ok h fun M' s => ⟨M', Pl.Sub.refl _, hq M' s⟩)
theorem c_ew (k : Nat) : K2.ErrWorlds (Cs T (k + 3)) 34 := fun M b Q h1 h2 h3 hq he => cs34 rfl (K2.err_worlds (c_worlds k) h1 h2 h3 (fun a M' s => ⟨M', Pl.Sub.refl _, hq a M' s⟩) fun a M' s => ⟨M', Pl.Sub.refl _, he a M' s⟩)
theorem c_ewi (k : Nat) : K2.ErrWith (Cs T (k + 7)) 34 := fun M b r bd Q h1 h2 h3 hq e1 e0 => cs34 rfl (K2.err_with (c_withb k) h1 h2 h3 (fun a c M' s => ⟨M', Pl.Sub.refl _, hq a c M' s⟩) (fun a c M' s => ⟨M', Pl.Sub.refl _, e1 a c M' s⟩) fun a M' s => ⟨M', Pl.Sub.refl _, e0 a M' s⟩)
theorem c_eb (k : Nat) : K2.ErrBody (Cs T (k + 2)) 34 := fun M b r bd Q h1 h2 he => cs34 rfl (K2.err_body (c_bodyof k) h1 h2 fun M' s => ⟨M', Pl.Sub.refl _, he M' s⟩)
theorem c_many (k : Nat) : K2.ManyC (Cs T (k + 1)) 35 := fun M b Q h1 h2 h3 hq => cs35 rfl (K2.many_ok h1 h2 h3 ⟨M, Pl.Sub.refl _, hq⟩)
theorem c_deep (k : Nat) : K2.DeepC (Cs T (k + 2)) 36 := fun M b Q h hq => cs36 rfl (K2.deep_ok (c_kids k) h fun M' s => ⟨M', Pl.Sub.refl _, hq M' s⟩)
theorem c_other (k : Nat) : K2.OtherC (Cs T (k + 3)) 37 := fun M p b nm Q h1 h2 d hq => cs37 rfl (K2.other_ok (c_nodes k) (c_deep k) (c_draw (k + 1)) (c_pick k) h1 h2 d fun bd ok M' g1 g2 g3 => ⟨M', Pl.Sub.refl _, hq bd ok M' g1 g2 g3⟩)
theorem law_true (ns : List Int) (hns : ns.length ≤ 63) : Cs T depth 38 [.rol (ns.map U.int)] (fun _ => none) (fun u _ => u = .bl true) :=
  cs38 (k := 59) rfl (K2.law_p (c_ew 56) (c_ewi 52) (c_eb 57) (c_lwith 58) (c_other 56) (c_pick 57) (c_bodyof 58) (c_nod 57) (c_nodes 57) (c_lworlds 57) (c_many 58) (c_rare 57) (c_draw 58) (c_book 45)
    (fun Q hq => cs14 (k := 58) rfl (begin_ok hns fun p M0 s0 d0 => ⟨M0, Pl.Sub.refl _, hq p M0 s0 d0⟩)) fun M' => ⟨_, Pl.Sub.refl _, rfl⟩)
end K02

open PySem PySem.W PySem.Calls PyProof.Rows
theorem PySem.Challenge.cw_holdstill_k02_worlds_and_bodies_holds : PySem.Challenge.rw_holdstill_k02_worlds_and_bodies.Holds := by
  w_on; o_law
  refine HandSHeadRun.head_any (r := OpenLaw.row PySem.Challenge.rw_holdstill_k02_worlds_and_bodies) (q := view (OpenLaw.row PySem.Challenge.rw_holdstill_k02_worlds_and_bodies).prog [53]) (H := K02.hk) (ob := K02.ob) (M := 9000) (loose := K02.loose) (d := HandSHeadRun.topDef (OpenLaw.row PySem.Challenge.rw_holdstill_k02_worlds_and_bodies).prog 53) (kwd := []) K02.ob_eq
    (by kernel_rfl) (fun s => by kernel_rfl) K02.run (by kernel_rfl) (by kernel_rfl) (by kernel_rfl) (by rfl) (by first | assumption | decide +kernel) (by decide +kernel) ⟨rfl, rfl, rfl, rfl, rfl, by decide +kernel⟩ ?hw ?hc
  case hw => w_witness2
  case hc =>
    refine L2.walk_ofE (l := PySem.Challenge.rw_holdstill_k02_worlds_and_bodies) (n := 63) (k := 2 * K02.depth) (x := "script") (CX := L2.CX0) rfl (by decide) (by kernel_rfl) ⟨rfl, by decide, by decide⟩ ?F (fun _ _ _ _ z => z)
    intro w mg fa h Y G hmg0
    obtain ⟨K, KX, c⟩ := Y
    have hmg : mg ("law" : PySem.Str) = some (.ref fa) := by
      have e : (HandSHeadRun.topDef (OpenLaw.row PySem.Challenge.rw_holdstill_k02_worlds_and_bodies).prog 53).name = ("law" : PySem.Str) := by kernel_rfl
      rw [← e]
      exact hmg0
    obtain ⟨fd, sp, hb, hs, hF⟩ := Pl.law_ok (P := (PySem.Challenge.rw_holdstill_k02_worlds_and_bodies).prog) (wd := w) (n := 38) (k := K02.depth) (dl := K02.d38) K02.ck K02.bd rfl rfl rfl rfl KX G hmg c K02.law_true K02.xo
    exact ⟨K, fd, sp, KX, hb, hs, hF⟩

